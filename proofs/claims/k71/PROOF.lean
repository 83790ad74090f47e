import PyProof.Rows.All
import Wide.All
import OpenK.AllK
import Wide.FinOn
import HandS.ForMost
import HandS.Exc
import HandS.CallSlots
import HandS.Walk
import HandS.Flow
import HandS.Zip
import HandS.FStr
import HandS.Defaults
import HandS.Ends
import HandS.HeadEnd
import HandS.ExcOwn
import HandS.Wide
import HandS.TupAny
import HandS.TupMul
import HandS.IsInst
import HandS.RaiseMore
import PyProof.ReprRoads
import HandS.Dict
import HandS.More
import HandS.List
import HandS.Text
import HandS.Small
import HandS.Star
import HandS.Style
import PyProof.CollectIter
import KE.KUnpack
import HandS.Iter
import HandS.Head0
import HandS.Head1
import HandS.Head2
import HandS.HeadHook1
import HandS.HeadHook2
import HandS.HeadHook4
import PySem.Challenge.RW_lampstays_k71_texts_written_and_parsed
set_option Elab.async false
set_option linter.all false
set_option maxRecDepth 100000
set_option maxHeartbeats 2000000
/-! Fx: a plain, functional reading of Python defs over HandS: values are trees, what changes lies in a store. -/
namespace Fx
open PySem L2

/-- values: a tuple is a tree, what can change is a place in the store -/
inductive T where
  | non | bl (b : Bool) | int (i : Int) | str (x : Str) | tup (ts : List T) | frz (ts : List T) | loc (n : Nat) | ty (n : String) | glo (x : String)
abbrev Env := List (Option T)
inductive O where
  | lst (ts : List T) | dct (kvs : List (Key × T)) | ins (C : String) (fs : List (String × T))
structure Sto where
  os : List O
  kp : Nat
structure Exn where
  cls : String
  fs : List (String × T)
inductive Out where
  | ok (t : T) (s : Sto) | exc (x : Exn) (s : Sto) | bad
inductive OutL where
  | ok (ts : List T) (s : Sto) | exc (x : Exn) (s : Sto) | bad
inductive OutB where
  | ok (b : Bool) (s : Sto) | exc (x : Exn) (s : Sto) | bad
inductive Fl where
  | nx (r : Env) (s : Sto) | rt (t : T) (s : Sto) | bk (r : Env) (s : Sto) | ct (r : Env) (s : Sto) | ex (x : Exn) (r : Env) (s : Sto) | bad
/-- what is walked: the items, what must hold of the store at each turn -/
inductive OutI where
  | ok (ts : List T) (chk : Sto → Bool) (s : Sto) | exc (x : Exn) (s : Sto) | bad
abbrev Ev := Env → Sto → Out
abbrev Lv := Env → Sto → OutL
abbrev Bv := Env → Sto → OutB
abbrev Sv := Env → Sto → Fl
abbrev Iv := Env → Sto → OutI
abbrev Gv := T → Env → Sto → Fl
abbrev CallT := String → List T → Sto → Out
abbrev OV := Option (T × Sto)

mutual
/-- places below this number only -/
def T.hi : T → Nat
  | .loc n => n + 1
  | .tup ts => T.his ts
  | .frz ts => T.his ts
  | .non => 0 | .bl _ => 0 | .int _ => 0 | .str _ => 0 | .ty _ => 0 | .glo _ => 0
def T.his : List T → Nat
  | [] => 0
  | t :: r => max t.hi (T.his r)
end
def O.hi : O → Nat
  | .lst ts => T.his ts
  | .dct kvs => T.his (kvs.map (·.2))
  | .ins _ fs => T.his (fs.map (·.2))
def Exn.hi (x : Exn) : Nat := T.his (x.fs.map (·.2))

/-! ### the store -/
def Sto.len (s : Sto) : Nat := s.os.length
def Sto.get (s : Sto) (i : Nat) : Option O := s.os[i]?
def Sto.add (s : Sto) (o : O) : Sto := ⟨s.os ++ [o], s.kp⟩
/-- o laid at i -/
def Sto.put (s : Sto) (i : Nat) (o : O) : Sto := ⟨s.os.set i o, if o.hi ≤ i then s.kp else max s.kp o.hi⟩
def Sto.cut (n : Nat) (s : Sto) : Sto := ⟨s.os.take n, s.kp⟩
/-- what was made within a call and is not handed out goes -/
def gcR (n k : Nat) : Out → Out
  | .ok t s => if s.kp = k then .ok t (s.cut (max n t.hi)) else .ok t s
  | .exc x s => if s.kp = k then .exc x (s.cut (max n x.hi)) else .exc x s
  | .bad => .bad

/-! ### expressions -/
def Out.bnd (o : Out) (k : T → Sto → Out) : Out := match o with | .ok t s => k t s | .exc x s => .exc x s | .bad => .bad
def Out.bndL (o : Out) (k : T → Sto → OutL) : OutL := match o with | .ok t s => k t s | .exc x s => .exc x s | .bad => .bad
def Out.bndB (o : Out) (k : T → Sto → OutB) : OutB := match o with | .ok t s => k t s | .exc x s => .exc x s | .bad => .bad
def Out.bndI (o : Out) (k : T → Sto → OutI) : OutI := match o with | .ok t s => k t s | .exc x s => .exc x s | .bad => .bad
def Out.bndS (o : Out) (r : Env) (k : T → Sto → Fl) : Fl := match o with | .ok t s => k t s | .exc x s => .ex x r s | .bad => .bad
def OutL.bnd (o : OutL) (k : List T → Sto → Out) : Out := match o with | .ok t s => k t s | .exc x s => .exc x s | .bad => .bad
def OutL.bndL (o : OutL) (k : List T → Sto → OutL) : OutL := match o with | .ok t s => k t s | .exc x s => .exc x s | .bad => .bad
def OutL.bndI (o : OutL) (k : List T → Sto → OutI) : OutI := match o with | .ok t s => k t s | .exc x s => .exc x s | .bad => .bad
def OutB.bnd (o : OutB) (k : Bool → Sto → Out) : Out := match o with | .ok t s => k t s | .exc x s => .exc x s | .bad => .bad
def OutB.bndB (o : OutB) (k : Bool → Sto → OutB) : OutB := match o with | .ok t s => k t s | .exc x s => .exc x s | .bad => .bad
def OutB.bndS (o : OutB) (r : Env) (k : Bool → Sto → Fl) : Fl := match o with | .ok t s => k t s | .exc x s => .ex x r s | .bad => .bad
def vOut : OV → Out
  | some (t, s) => .ok t s
  | none => .bad

def eVar (i : Nat) : Ev := fun r s => match r[i]? with | some (some t) => .ok t s | _ => .bad
def eC (t : T) : Ev := fun _ s => .ok t s
def eBin (g : T → T → Sto → OV) (a b : Ev) : Ev := fun r s => (a r s).bnd fun x s => (b r s).bnd fun y s => vOut (g x y s)
def eUn (g : T → Sto → OV) (a : Ev) : Ev := fun r s => (a r s).bnd fun x s => vOut (g x s)
def lNil : Lv := fun _ s => .ok [] s
def lCons (a : Ev) (l : Lv) : Lv := fun r s => (a r s).bndL fun x s => (l r s).bndL fun xs s => .ok (x :: xs) s
def eTup (l : Lv) : Ev := fun r s => (l r s).bnd fun ts s => if ts.length ≤ sizeLine then .ok (.tup ts) s else .bad
def eLst (l : Lv) : Ev := fun r s => (l r s).bnd fun ts s => if ts.length ≤ sizeLine then .ok (.loc s.len) (s.add (.lst ts)) else .bad
/-- a def of the text -/
def eCall (C : CallT) (f : String) (l : Lv) : Ev := fun r s => (l r s).bnd fun ts s => C f ts s
/-- .. what its arguments made goes too -/
def eCallG (C : CallT) (f : String) (l : Lv) : Ev := fun r s => gcR s.len s.kp ((l r s).bnd fun ts s => C f ts s)
/-- a built-in -/
def eB (g : List T → Sto → OV) (l : Lv) : Ev := fun r s => (l r s).bnd fun ts s => vOut (g ts s)
def eIf (c : Bv) (a b : Ev) : Ev := fun r s => (c r s).bnd fun k s => if k = true then a r s else b r s

/-! ### tests -/
def tru : T → Sto → Option Bool
  | .non, _ => some false
  | .bl b, _ => some b
  | .int i, _ => some (decide (i ≠ 0))
  | .str x, _ => if x.length ≤ sizeLine then some (decide (x.length ≠ 0)) else none
  | .tup ts, _ => some (!ts.isEmpty)
  | .frz ts, _ => some (!ts.isEmpty)
  | .loc n, s => match s.get n with
    | some (.lst ts) => some (!ts.isEmpty)
    | _ => none
  | .ty _, _ => none
  | .glo _, _ => none
/-- the truth of a value -/
def bT (a : Ev) : Bv := fun r s => (a r s).bndB fun t s => match tru t s with | some k => .ok k s | none => .bad
/-- a value that is a bool -/
def bV (a : Ev) : Bv := fun r s => (a r s).bndB fun t s => match t with | .bl k => .ok k s | _ => .bad
def bNot (a : Bv) : Bv := fun r s => (a r s).bndB fun k s => .ok (!k) s
def bAnd (a b : Bv) : Bv := fun r s => (a r s).bndB fun k s => if k = true then b r s else .ok false s
def bOr (a b : Bv) : Bv := fun r s => (a r s).bndB fun k s => if k = true then .ok true s else b r s
/-- a test's answer as a value -/
def eAnd (a b : Ev) : Ev := fun r s => (a r s).bnd fun t s => match tru t s with | some k => if k = true then b r s else .ok t s | none => .bad
def eOr (a b : Ev) : Ev := fun r s => (a r s).bnd fun t s => match tru t s with | some k => if k = true then .ok t s else b r s | none => .bad
def eNot (a : Ev) : Ev := fun r s => (a r s).bnd fun t s => match tru t s with | some k => .ok (.bl (!k)) s | none => .bad
/-- a < b < c -/
def eChain (g h : T → T → Sto → OV) (a b c : Ev) : Ev := fun r s => (a r s).bnd fun x s => (b r s).bnd fun y s => match g x y s with
  | some (.bl k, s) => if k = true then (c r s).bnd fun z s => vOut (h y z s) else .ok (.bl false) s
  | _ => .bad

/-! ### statements -/
def sNil : Sv := fun r s => .nx r s
def sSeq (a b : Sv) : Sv := fun r s => match a r s with | .nx r s => b r s | o => o
def sEx (a : Ev) : Sv := fun r s => (a r s).bndS r fun _ s => .nx r s
def sRet (a : Ev) : Sv := fun r s => (a r s).bndS r fun t s => .rt t s
def sRetN : Sv := fun _ s => .rt .non s
def sIf (c : Bv) (a b : Sv) : Sv := fun r s => (c r s).bndS r fun k s => if k = true then a r s else b r s
def sBrk : Sv := fun r s => .bk r s
def sCnt : Sv := fun r s => .ct r s
def gNm (i : Nat) : Gv := fun t r s => .nx (r.set i (some t)) s
def gsNil : List T → Env → Sto → Fl := fun ts r s => match ts with | [] => .nx r s | _ => .bad
def gsCons (g : Gv) (gs : List T → Env → Sto → Fl) : List T → Env → Sto → Fl := fun ts r s => match ts with
  | t :: q => (match g t r s with | .nx r s => gs q r s | .ex x r s => .ex x r s | _ => .bad)
  | [] => .bad
def gTp (n : Nat) (gs : List T → Env → Sto → Fl) : Gv := fun t r s => match t with | .tup ts => if ts.length = n then gs ts r s else .bad | _ => .bad
def sAsg (a : Ev) (g : Gv) : Sv := fun r s => (a r s).bndS r fun t s => g t r s
/-- a, b = x, y over plain locals -/
def sPar (i j : Nat) (l : Lv) : Sv := fun r s => match l r s with
  | .ok [t, u] s => .nx ((r.set i (some t)).set j (some u)) s
  | .ok _ _ => .bad
  | .exc x s => .ex x r s
  | .bad => .bad
def sAug (i : Nat) (g : T → T → Sto → OV) (a : Ev) : Sv := fun r s => match r[i]? with
  | some (some x) => (a r s).bndS r fun y s => (match g x y s with | some (z, s) => .nx (r.set i (some z)) s | none => .bad)
  | _ => .bad
/-- the turns of a for -/
def forL (chk : Sto → Bool) (g : Gv) (b : Sv) : List T → Env → Sto → Fl
  | [], r, s => if chk s = true then .nx r s else .bad
  | t :: q, r, s => if chk s = true then (match g t r s with
      | .nx r s => (match b r s with
        | .nx r s => forL chk g b q r s
        | .ct r s => forL chk g b q r s
        | .bk r s => .nx r s
        | .rt t s => .rt t s
        | .ex x r s => .ex x r s
        | .bad => .bad)
      | .ex x r s => .ex x r s
      | _ => .bad) else .bad
def sFor (it : Iv) (g : Gv) (b : Sv) : Sv := fun r s => match it r s with
  | .ok ts chk s => forL chk g b ts r s
  | .exc x s => .ex x r s
  | .bad => .bad
def whileN (c : Bv) (b : Sv) : Nat → Sv
  | 0, _, _ => .bad
  | n + 1, r, s => (c r s).bndS r fun k s => if k = true then (match b r s with
        | .nx r s => whileN c b n r s
        | .ct r s => whileN c b n r s
        | .bk r s => .nx r s
        | .rt t s => .rt t s
        | .ex x r s => .ex x r s
        | .bad => .bad) else .nx r s
/-- more turns than any while here takes -/
def wTurns : Nat := 1000000000
def sWhile (c : Bv) (b : Sv) : Sv := whileN c b wTurns

/-! ### comprehensions -/
/-- the names of a comprehension's block forgotten -/
def wip (r : Env) : List Nat → Env
  | [] => r
  | v :: vs => (wip r vs).set v none
def compL (chk : Sto → Bool) (g : Gv) (c : Bv) (e : Ev) (r0 : Env) : List T → List T → Sto → OutL
  | [], acc, s => if chk s = true then .ok acc s else .bad
  | t :: q, acc, s => if chk s = true then (match g t r0 s with
      | .nx r s => (match c r s with
        | .ok k s => if k = true then (match e r s with
            | .ok y s => if acc.length < sizeLine then compL chk g c e r0 q (acc ++ [y]) s else .bad
            | _ => .bad) else compL chk g c e r0 q acc s
        | _ => .bad)
      | _ => .bad) else .bad
def bYes : Bv := fun _ s => .ok true s
/-- the items of [e for g in it if c] -/
def lComp (it : Iv) (g : Gv) (c : Bv) (e : Ev) (vs : List Nat) : Lv := fun r s => match it r s with
  | .ok ts chk s => compL chk g c e (wip r vs) ts [] s
  | .exc x s => .exc x s
  | .bad => .bad
/-- the list as an object -/
def eComp (l : Lv) : Ev := fun r s => (l r s).bnd fun ts s => .ok (.loc s.len) (s.add (.lst ts))
/-- a list that only a built-in sees -/
def eTmp (h : List T → Sto → OV) (l : Lv) : Ev := fun r s => (l r s).bnd fun ts s => vOut (h ts s)

/-! ### defs -/
structure FnD where
  np : Nat
  nl : Nat
  body : CallT → Sv
def Fl.out : Fl → Out
  | .rt t s => .ok t s
  | .nx _ s => .ok .non s
  | .ex x _ s => .exc x s
  | _ => .bad
def runD (d : FnD) (C : CallT) (ts : List T) (s : Sto) : Out :=
  if ts.length = d.np then gcR s.len s.kp (d.body C (ts.map some ++ List.replicate (d.nl - d.np) none) s).out else .bad
/-- a program, so many calls deep -/
def run (p : String → Option FnD) : Nat → CallT
  | 0, _, _, _ => .bad
  | k + 1, f, ts, s => match p f with | some d => runD d (run p k) ts s | none => .bad
end Fx

set_option maxRecDepth 100000
set_option maxHeartbeats 2000000
/-! Fx: how trees and stores stand for values and abstract heaps. -/
namespace Fx
open PySem L2

section
variable (K : PySem.W.Frag) (mg : Str → Option Value)
def TupAt (H : Hp) (a : Addr) (vs : List V) : Prop :=
  H a = some (.tup vs) ∨ ∃ (o : Obj) (its : Array Value) (n : Nat), K.lookup a = some o ∧ o.cls = .type "tuple" ∧ o.data = .seq its n ∧ its.size ≤ sizeLine ∧ Vals vs its.toList
/-- a list that nobody changes -/
def FrzAt (H : Hp) (a : Addr) (vs : List V) : Prop :=
  (∃ o, H a = some (.frz o (.lst vs))) ∨ ∃ (o : Obj) (its : Array Value) (n : Nat), K.lookup a = some o ∧ o.cls = .type "list" ∧ o.dict = none ∧ o.data = .seq its n ∧ its.size ≤ sizeLine ∧ Vals vs its.toList
theorem FrzAt.sq {K : PySem.W.Frag} {H : Hp} {a : Addr} {vs : List V} (h : FrzAt K H a vs) : SqL K H a vs := by
  rcases h with h | h
  · exact .inl (.inr h)
  · exact .inr h
theorem TupAt.sq {K : PySem.W.Frag} {H : Hp} {a : Addr} {vs : List V} (h : TupAt K H a vs) : SqT K H a vs := by
  rcases h with h | h
  · exact .inl (.inl h)
  · exact .inr h
mutual
inductive D (L : List Addr) (H : Hp) : V → T → Prop
  | non : D L H .non .non
  | bl (b : Bool) : D L H (.bl b) (.bl b)
  | int (i : Int) : D L H (.int i) (.int i)
  | str (x : Str) : D L H (.str x) (.str x)
  | ty (n : String) : D L H (.ty n) (.ty n)
  | loc {n : Nat} {a : Addr} : L[n]? = some a → D L H (.ref a) (.loc n)
  | glo {x : String} {a : Addr} : mg (Str.ofString x) = some (.ref a) → D L H (.ref a) (.glo x)
  | tup {a : Addr} {vs : List V} {ts : List T} : TupAt K H a vs → Ds L H vs ts → D L H (.ref a) (.tup ts)
  | frz {a : Addr} {vs : List V} {ts : List T} : FrzAt K H a vs → Ds L H vs ts → D L H (.ref a) (.frz ts)
inductive Ds (L : List Addr) (H : Hp) : List V → List T → Prop
  | nil : Ds L H [] []
  | cons {v : V} {t : T} {vs : List V} {ts : List T} : D L H v t → Ds L H vs ts → Ds L H (v :: vs) (t :: ts)
end
end

/-- what goes on in between: places are added, what is no place and what is a tuple stays -/
structure Ex (L : List Addr) (H : Hp) (L' : List Addr) (H' : Hp) : Prop where
  pre : L <+: L'
  frm : ∀ a o, H a = some o → a ∉ L → H' a = some o
  tup : ∀ a vs, H a = some (.tup vs) → H' a = some (.tup vs)
  frz : ∀ a o u, H a = some (.frz o u) → H' a = some (.frz o u)
  new : ∀ a, a ∈ L' → a ∈ L ∨ H a = none
theorem Ex.refl {L : List Addr} {H : Hp} : Ex L H L H := ⟨List.prefix_rfl, fun _ _ h _ => h, fun _ _ h => h, fun _ _ _ h => h, fun _ h => .inl h⟩
theorem Ex.trans {L L1 L2 : List Addr} {H H1 H2 : Hp} (a : Ex L H L1 H1) (b : Ex L1 H1 L2 H2) : Ex L H L2 H2 where
  pre := a.pre.trans b.pre
  frm := fun x o h n => b.frm x o (a.frm x o h n) fun m => by
    rcases a.new x m with q | q
    · exact n q
    · rw [h] at q; cases q
  tup := fun x vs h => b.tup x vs (a.tup x vs h)
  frz := fun x o u h => b.frz x o u (a.frz x o u h)
  new := fun x m => by
    rcases b.new x m with q | q
    · exact a.new x q
    · by_cases hL : x ∈ L
      · exact .inl hL
      · cases e : H x with
        | none => exact .inr rfl
        | some o => rw [a.frm x o e hL] at q; cases q
theorem Ex.get {L L' : List Addr} {H H' : Hp} (e : Ex L H L' H') {n : Nat} {a : Addr} (h : L[n]? = some a) : L'[n]? = some a := by
  obtain ⟨r, rfl⟩ := e.pre
  rw [List.getElem?_append_left (List.getElem?_eq_some_iff.mp h).1]; exact h

section
variable {K : PySem.W.Frag} {mg : Str → Option Value} {L L' : List Addr} {H H' : Hp}
theorem TupAt.mono {a : Addr} {vs : List V} (h : TupAt K H a vs) (t : ∀ a vs, H a = some (.tup vs) → H' a = some (.tup vs)) : TupAt K H' a vs := by
  rcases h with h | h
  · exact .inl (t a vs h)
  · exact .inr h
theorem FrzAt.mono {a : Addr} {vs : List V} (h : FrzAt K H a vs) (t : ∀ a o u, H a = some (.frz o u) → H' a = some (.frz o u)) : FrzAt K H' a vs := by
  rcases h with ⟨o, h⟩ | h
  · exact .inl ⟨o, t a _ _ h⟩
  · exact .inr h
mutual
theorem D.mono' (hp : ∀ (n : Nat) (a : Addr), L[n]? = some a → L'[n]? = some a) (ht : ∀ a vs, H a = some (.tup vs) → H' a = some (.tup vs)) (hf : ∀ a o u, H a = some (.frz o u) → H' a = some (.frz o u)) : ∀ {v : V} {t : T}, D K mg L H v t → D K mg L' H' v t
  | _, _, .non => .non
  | _, _, .bl b => .bl b
  | _, _, .int i => .int i
  | _, _, .str x => .str x
  | _, _, .ty n => .ty n
  | _, _, .loc h => .loc (hp _ _ h)
  | _, _, .glo h => .glo h
  | _, _, .tup h r => .tup (h.mono ht) (Ds.mono' hp ht hf r)
  | _, _, .frz h r => .frz (h.mono hf) (Ds.mono' hp ht hf r)
theorem Ds.mono' (hp : ∀ (n : Nat) (a : Addr), L[n]? = some a → L'[n]? = some a) (ht : ∀ a vs, H a = some (.tup vs) → H' a = some (.tup vs)) (hf : ∀ a o u, H a = some (.frz o u) → H' a = some (.frz o u)) : ∀ {vs : List V} {ts : List T}, Ds K mg L H vs ts → Ds K mg L' H' vs ts
  | _, _, .nil => .nil
  | _, _, .cons h r => .cons (D.mono' hp ht hf h) (Ds.mono' hp ht hf r)
end
theorem D.mono {v : V} {t : T} (d : D K mg L H v t) (e : Ex L H L' H') : D K mg L' H' v t := d.mono' (fun _ _ h => e.get h) e.tup e.frz
theorem Ds.mono {vs : List V} {ts : List T} (d : Ds K mg L H vs ts) (e : Ex L H L' H') : Ds K mg L' H' vs ts := d.mono' (fun _ _ h => e.get h) e.tup e.frz
theorem Ds.length {vs : List V} {ts : List T} (d : Ds K mg L H vs ts) : vs.length = ts.length := by
  induction ts generalizing vs with
  | nil => cases d; rfl
  | cons t r ih => cases d with | cons h q => simp [ih q]
theorem Ds.get {vs : List V} {ts : List T} {i : Nat} {t : T} (d : Ds K mg L H vs ts) (h : ts[i]? = some t) : ∃ v, vs[i]? = some v ∧ D K mg L H v t := by
  induction ts generalizing vs i with
  | nil => simp at h
  | cons t0 r ih =>
    cases d with
    | cons h0 q =>
      cases i with
      | zero => simp at h; subst h; exact ⟨_, rfl, h0⟩
      | succ i => simpa using ih q (by simpa using h)
theorem Ds.get' {vs : List V} {ts : List T} {i : Nat} {v : V} (d : Ds K mg L H vs ts) (h : vs[i]? = some v) : ∃ t, ts[i]? = some t ∧ D K mg L H v t := by
  have hl := d.length
  have hi := (List.getElem?_eq_some_iff.mp h).1
  obtain ⟨v', h1, h2⟩ := d.get (i := i) (t := ts[i]'(by omega)) (by simp)
  rw [h] at h1; cases h1
  exact ⟨_, by simp, h2⟩
theorem Ds.app {vs ws : List V} {ts us : List T} (d : Ds K mg L H vs ts) (e : Ds K mg L H ws us) : Ds K mg L H (vs ++ ws) (ts ++ us) := by
  induction ts generalizing vs with
  | nil => cases d; exact e
  | cons t r ih => cases d with | cons h q => exact .cons h (ih q)
theorem Ds.take {vs : List V} {ts : List T} (n : Nat) (d : Ds K mg L H vs ts) : Ds K mg L H (vs.take n) (ts.take n) := by
  induction ts generalizing vs n with
  | nil => cases d; simp; exact .nil
  | cons t r ih =>
    cases d with
    | cons h q =>
      cases n with
      | zero => exact .nil
      | succ n => simpa using Ds.cons h (ih n q)
theorem Ds.drop {vs : List V} {ts : List T} (n : Nat) (d : Ds K mg L H vs ts) : Ds K mg L H (vs.drop n) (ts.drop n) := by
  induction ts generalizing vs n with
  | nil => cases d; simp; exact .nil
  | cons t r ih =>
    cases d with
    | cons h q =>
      cases n with
      | zero => exact .cons h q
      | succ n => simpa using ih n q
theorem Ds.set {vs : List V} {ts : List T} {v : V} {t : T} (i : Nat) (d : Ds K mg L H vs ts) (e : D K mg L H v t) : Ds K mg L H (vs.set i v) (ts.set i t) := by
  induction ts generalizing vs i with
  | nil => cases d; exact .nil
  | cons t0 r ih =>
    cases d with
    | cons h q =>
      cases i with
      | zero => exact .cons e q
      | succ n => exact .cons h (ih n q)
mutual
/-- what is told speaks of places that are there -/
theorem D.hi_le : ∀ {v : V} {t : T}, D K mg L H v t → t.hi ≤ L.length
  | _, _, .non => by simp [T.hi]
  | _, _, .bl b => by simp [T.hi]
  | _, _, .int i => by simp [T.hi]
  | _, _, .str x => by simp [T.hi]
  | _, _, .ty n => by simp [T.hi]
  | _, _, .loc h => by have := (List.getElem?_eq_some_iff.mp h).1; simp only [T.hi]; omega
  | _, _, .glo h => by simp [T.hi]
  | _, _, .tup h r => by simpa [T.hi] using Ds.hi_le r
  | _, _, .frz h r => by simpa [T.hi] using Ds.hi_le r
theorem Ds.hi_le : ∀ {vs : List V} {ts : List T}, Ds K mg L H vs ts → T.his ts ≤ L.length
  | _, _, .nil => by simp [T.his]
  | _, _, .cons h r => by
    have h1 := D.hi_le h
    have h2 := Ds.hi_le r
    simp only [T.his]; omega
end
mutual
/-- places beyond those that it speaks of may go -/
theorem D.cut (m : Nat) : ∀ {v : V} {t : T}, D K mg L H v t → t.hi ≤ m → D K mg (L.take m) H v t
  | _, _, .non, _ => .non
  | _, _, .bl b, _ => .bl b
  | _, _, .int i, _ => .int i
  | _, _, .str x, _ => .str x
  | _, _, .ty n, _ => .ty n
  | _, _, .loc (n := n) h, hm => .loc (by rw [List.getElem?_take_of_lt (by simp only [T.hi] at hm; omega)]; exact h)
  | _, _, .glo h, _ => .glo h
  | _, _, .tup h r, hm => .tup h (Ds.cut m r (by simpa [T.hi] using hm))
  | _, _, .frz h r, hm => .frz h (Ds.cut m r (by simpa [T.hi] using hm))
theorem Ds.cut (m : Nat) : ∀ {vs : List V} {ts : List T}, Ds K mg L H vs ts → T.his ts ≤ m → Ds K mg (L.take m) H vs ts
  | _, _, .nil, _ => .nil
  | _, _, .cons h r, hm => .cons (D.cut m h (by simp only [T.his] at hm; omega)) (Ds.cut m r (by simp only [T.his] at hm; omega))
end
end

section
variable (K : PySem.W.Frag) (mg : Str → Option Value)
/-- fields by name -/
def Fds (L : List Addr) (H : Hp) (fs' : List (Str × V)) (fs : List (String × T)) : Prop := fs'.map (·.1) = fs.map (fun p => Str.ofString p.1) ∧ Ds K mg L H (fs'.map (·.2)) (fs.map (·.2))
def Kvs (L : List Addr) (H : Hp) (fs' : List (Key × V)) (fs : List (Key × T)) : Prop := fs'.map (·.1) = fs.map (·.1) ∧ Ds K mg L H (fs'.map (·.2)) (fs.map (·.2))
/-- the object at a -/
def OD (L : List Addr) (H : Hp) (a : Addr) : O → Prop
  | .lst ts => ∃ vs, H a = some (.lst vs) ∧ Ds K mg L H vs ts
  | .dct kvs => ∃ kvs', H a = some (.dK kvs') ∧ Kvs K mg L H kvs' kvs
  | .ins C fs => ∃ Ca dx fs', H a = some (.ins Ca dx fs') ∧ mg (Str.ofString C) = some (.ref Ca) ∧ Fds K mg L H fs' fs
structure Rl (L : List Addr) (s : Sto) (H : Hp) : Prop where
  len : L.length = s.os.length
  nd : L.Nodup
  kp : s.kp ≤ s.os.length
  obj : ∀ (i : Nat) o, s.os[i]? = some o → ∃ a, L[i]? = some a ∧ OD K mg L H a o
  ref : ∀ (i : Nat) o, s.os[i]? = some o → o.hi ≤ max i s.kp
/-- the names' values -/
structure Er (L : List Addr) (H : Hp) (σ : St) (r : Env) : Prop where
  len : r.length = σ.length
  val : ∀ (i : Nat) t, r[i]? = some (some t) → ∃ v, σ[i]? = some (some v) ∧ D K mg L H v t
/-- an exception -/
def XD (L : List Addr) (H : Hp) (cls : Value) (d : Option Addr) (x : Exn) : Prop :=
  ∃ Ca, cls = .ref Ca ∧ mg (Str.ofString x.cls) = some (.ref Ca) ∧ ((d = none ∧ x.fs = []) ∨ ∃ dx fs', d = some dx ∧ H dx = some (.xd fs') ∧ Fds K mg L H fs' x.fs)
end

section
variable {K : PySem.W.Frag} {mg : Str → Option Value} {L L' : List Addr} {H H' : Hp} {s : Sto} {σ : St} {r : Env}
theorem O.hi_lst {ts : List T} : (O.lst ts).hi = T.his ts := rfl
theorem OD.hi_le {a : Addr} {o : O} (d : OD K mg L H a o) : o.hi ≤ L.length := by
  cases o with
  | lst ts => obtain ⟨vs, _, q⟩ := d; exact q.hi_le
  | dct kvs => obtain ⟨vs, _, _, q⟩ := d; exact q.hi_le
  | ins C fs => obtain ⟨_, _, _, _, _, _, q⟩ := d; exact q.hi_le
theorem Er.mono (e : Er K mg L H σ r) (x : Ex L H L' H') : Er K mg L' H' σ r :=
  ⟨e.len, fun i t h => let ⟨v, h1, h2⟩ := e.val i t h; ⟨v, h1, h2.mono x⟩⟩
theorem Er.set {i : Nat} {v : V} {t : T} (e : Er K mg L H σ r) (d : D K mg L H v t) : Er K mg L H (σ.set i (some v)) (r.set i (some t)) := by
  refine ⟨by simp [e.len], fun j u h => ?_⟩
  by_cases hj : i = j
  · subst hj
    by_cases hlt : i < r.length
    · rw [List.getElem?_set_self hlt] at h
      cases h
      exact ⟨v, by rw [List.getElem?_set_self (by rw [← e.len]; exact hlt)], d⟩
    · rw [List.getElem?_eq_none (by simpa using hlt)] at h; cases h
  · rw [List.getElem?_set_ne hj] at h
    obtain ⟨w, h1, h2⟩ := e.val j u h
    exact ⟨w, by rw [List.getElem?_set_ne hj]; exact h1, h2⟩
theorem Er.unset {i : Nat} (e : Er K mg L H σ r) : Er K mg L H (σ.set i none) (r.set i none) := by
  refine ⟨by simp [e.len], fun j u h => ?_⟩
  by_cases hj : i = j
  · subst hj
    by_cases hlt : i < r.length
    · rw [List.getElem?_set_self hlt] at h; cases h
    · rw [List.getElem?_eq_none (by simpa using hlt)] at h; cases h
  · rw [List.getElem?_set_ne hj] at h
    obtain ⟨w, h1, h2⟩ := e.val j u h
    exact ⟨w, by rw [List.getElem?_set_ne hj]; exact h1, h2⟩
theorem Er.wip (e : Er K mg L H σ r) : ∀ vs : List Nat, Er K mg L H (wipe σ vs) (wip r vs)
  | [] => e
  | v :: vs => (Er.wip e vs).unset
theorem Fds.mono {fs' : List (Str × V)} {fs : List (String × T)} (f : Fds K mg L H fs' fs) (x : Ex L H L' H') : Fds K mg L' H' fs' fs := ⟨f.1, f.2.mono x⟩
theorem XD.mono {cls : Value} {d : Option Addr} {x : Exn} (q : XD K mg L H cls d x) (e : Ex L H L' H') (hn : ∀ dx, d = some dx → dx ∉ L) : XD K mg L' H' cls d x := by
  obtain ⟨Ca, h1, h2, h3⟩ := q
  refine ⟨Ca, h1, h2, ?_⟩
  rcases h3 with h3 | ⟨dx, fs', h4, h5, h6⟩
  · exact .inl h3
  · exact .inr ⟨dx, fs', h4, e.frm _ _ h5 (hn dx h4), h6.mono e⟩

/-! ### the store's steps -/
theorem Rl.get (q : Rl K mg L s H) {i : Nat} {o : O} (h : s.get i = some o) : ∃ a, L[i]? = some a ∧ OD K mg L H a o := q.obj i o h
theorem Rl.mem_of (q : Rl K mg L s H) {a : Addr} (h : a ∈ L) : ∃ (i : Nat) (o : O), L[i]? = some a ∧ s.os[i]? = some o ∧ OD K mg L H a o := by
  obtain ⟨i, hi, e⟩ := List.mem_iff_getElem.mp h
  have hl := q.len
  have e2 : s.os[i]? = some (s.os[i]'(by omega)) := by simp
  obtain ⟨b, h1, h2⟩ := q.obj i _ e2
  have e3 : L[i]? = some a := by simp [← e, hi]
  rw [e3] at h1; cases h1
  exact ⟨i, _, e3, e2, h2⟩
/-- a place is tracked -/
theorem OD.there {a : Addr} {o : O} (d : OD K mg L H a o) : ∃ ho, H a = some ho ∧ Mut (some ho) := by
  cases o with
  | lst ts => obtain ⟨_, e, _⟩ := d; exact ⟨_, e, trivial⟩
  | dct kvs => obtain ⟨_, e, _⟩ := d; exact ⟨_, e, trivial⟩
  | ins C fs => obtain ⟨_, _, _, e, _⟩ := d; exact ⟨_, e, trivial⟩
theorem Rl.there (q : Rl K mg L s H) {a : Addr} (h : a ∈ L) : ∃ ho, H a = some ho ∧ Mut (some ho) := let ⟨_, _, _, _, d⟩ := q.mem_of h; d.there
theorem Rl.notIn (q : Rl K mg L s H) {p : Addr} (h : H p = none) : p ∉ L := fun m => by
  obtain ⟨ho, e, _⟩ := q.there m
  rw [h] at e; cases e
theorem OD.mono {a : Addr} {o : O} (d : OD K mg L H a o) (e : Ex L H L' H') (h : H' a = H a) : OD K mg L' H' a o := by
  cases o with
  | lst ts => obtain ⟨vs, e1, q⟩ := d; exact ⟨vs, h.trans e1, q.mono e⟩
  | dct kvs => obtain ⟨vs, e1, q1, q2⟩ := d; exact ⟨vs, h.trans e1, q1, q2.mono e⟩
  | ins C fs => obtain ⟨Ca, dx, fs', e1, e2, q1, q2⟩ := d; exact ⟨Ca, dx, fs', h.trans e1, e2, q1, q2.mono e⟩
/-- the abstract heap at a free address -/
theorem Ex.laid {p : Addr} {ho : HO} (hp : H p = none) : Ex L H L (upd H p ho) :=
  ⟨List.prefix_rfl, fun a o h _ => by rw [upd_ne (ne_of_none h hp)]; exact h, fun a vs h => by rw [upd_ne (ne_of_none h hp)]; exact h, fun a o u h => by rw [upd_ne (ne_of_none h hp)]; exact h, fun _ h => .inl h⟩
theorem Rl.laid (q : Rl K mg L s H) {p : Addr} {ho : HO} (hp : H p = none) : Rl K mg L s (upd H p ho) :=
  ⟨q.len, q.nd, q.kp, fun i o e => by
    obtain ⟨a, h1, h2⟩ := q.obj i o e
    obtain ⟨hx, h3, _⟩ := h2.there
    exact ⟨a, h1, h2.mono (Ex.laid hp) (upd_ne (ne_of_none h3 hp))⟩, q.ref⟩
/-- a place is added: what stands at p -/
theorem Ex.add {p : Addr} {ho : HO} (hp : H p = none) : Ex L H (L ++ [p]) (upd H p ho) :=
  ⟨⟨[p], rfl⟩, fun a o h _ => by rw [upd_ne (ne_of_none h hp)]; exact h, fun a vs h => by rw [upd_ne (ne_of_none h hp)]; exact h, fun a o u h => by rw [upd_ne (ne_of_none h hp)]; exact h, fun a m => by
    rcases List.mem_append.mp m with m | m
    · exact .inl m
    · obtain rfl := List.mem_singleton.mp m
      exact .inr hp⟩
theorem Rl.add (q : Rl K mg L s H) {p : Addr} {ho : HO} {o : O} (hp : H p = none) (d : OD K mg L (upd H p ho) p o) : Rl K mg (L ++ [p]) (s.add o) (upd H p ho) := by
  have np := q.notIn hp
  have pre : ∀ (n : Nat) (a : Addr), L[n]? = some a → (L ++ [p])[n]? = some a := fun n a h => by
    rw [List.getElem?_append_left (List.getElem?_eq_some_iff.mp h).1]; exact h
  have mo : ∀ {a o}, OD K mg L (upd H p ho) a o → OD K mg (L ++ [p]) (upd H p ho) a o := fun {a o} d => by
    have mD : ∀ {vs ts}, Ds K mg L (upd H p ho) vs ts → Ds K mg (L ++ [p]) (upd H p ho) vs ts := fun {vs ts} r => r.mono' pre (fun _ _ h => h) (fun _ _ _ h => h)
    cases o with
    | lst ts => obtain ⟨vs, e1, q⟩ := d; exact ⟨vs, e1, mD q⟩
    | dct kvs => obtain ⟨vs, e1, q1, q2⟩ := d; exact ⟨vs, e1, q1, mD q2⟩
    | ins C fs => obtain ⟨Ca, dx, fs', e1, e2, q1, q2⟩ := d; exact ⟨Ca, dx, fs', e1, e2, q1, mD q2⟩
  have q1 := q.laid (ho := ho) hp
  refine ⟨by simp [Sto.add, q.len], List.nodup_append.mpr ⟨q.nd, by simp, fun a h b hb => by obtain rfl := List.mem_singleton.mp hb; rintro rfl; exact np h⟩, by simp only [Sto.add, List.length_append]; have := q.kp; omega, fun i o' e => ?_, fun i o' e => ?_⟩
  · simp only [Sto.add] at e
    by_cases hi : i < s.os.length
    · rw [List.getElem?_append_left hi] at e
      obtain ⟨a, h1, h2⟩ := q1.obj i o' e
      exact ⟨a, pre _ _ h1, mo h2⟩
    · have hi2 : i = s.os.length := by
        have := (List.getElem?_eq_some_iff.mp e).1
        simp at this; omega
      subst hi2
      simp at e
      subst e
      exact ⟨p, by rw [← q.len]; simp, mo d⟩
  · simp only [Sto.add] at e ⊢
    by_cases hi : i < s.os.length
    · rw [List.getElem?_append_left hi] at e
      exact q.ref i o' e
    · have hi2 : i = s.os.length := by
        have := (List.getElem?_eq_some_iff.mp e).1
        simp at this; omega
      subst hi2
      simp at e
      subst e
      have := d.hi_le
      rw [q.len] at this
      omega
theorem Rl.addD (q : Rl K mg L s H) {p : Addr} : D K mg (L ++ [p]) H' (.ref p) (.loc s.len) := .loc (by show (L ++ [p])[s.os.length]? = _; rw [← q.len]; simp)
/-- what stands at a place is changed -/
theorem Rl.exPut (q : Rl K mg L s H) {a : Addr} {ho : HO} (ha : a ∈ L) : Ex L H L (upd H a ho) := by
  obtain ⟨hx, h3, hm⟩ := q.there ha
  have ne : ∀ {b u}, H b = some u → ¬ Mut (some u) → b ≠ a := fun {b u} h nm e => by
    subst e; rw [h3] at h; cases h; exact nm hm
  exact ⟨List.prefix_rfl, fun b o h n => by rw [upd_ne (show b ≠ a from fun e => n (by rw [e]; exact ha))]; exact h, fun b vs h => by rw [upd_ne (ne h fun z => z)]; exact h, fun b o u h => by rw [upd_ne (ne h fun z => z)]; exact h, fun _ h => .inl h⟩
theorem Rl.put (q : Rl K mg L s H) {i : Nat} {a : Addr} {ho : HO} {o : O} (hi : L[i]? = some a) (d : OD K mg L (upd H a ho) a o) : Rl K mg L (s.put i o) (upd H a ho) := by
  have ha : a ∈ L := List.mem_of_getElem? hi
  have e := q.exPut (ho := ho) ha
  have hil : i < s.os.length := by rw [← q.len]; exact (List.getElem?_eq_some_iff.mp hi).1
  have kle : (s.put i o).kp ≤ s.os.length := by
    have h1 := q.kp
    have h2 := d.hi_le
    rw [q.len] at h2
    simp only [Sto.put]; split <;> omega
  have kge : s.kp ≤ (s.put i o).kp := by simp only [Sto.put]; split <;> omega
  refine ⟨by simp [Sto.put, q.len], q.nd, by simpa [Sto.put] using kle, fun j o' h => ?_, fun j o' h => ?_⟩
  · simp only [Sto.put] at h
    by_cases hj : i = j
    · subst hj
      rw [List.getElem?_set_self hil] at h
      cases h
      exact ⟨a, hi, d⟩
    · rw [List.getElem?_set_ne hj] at h
      obtain ⟨b, h1, h2⟩ := q.obj j o' h
      have hne : b ≠ a := fun e => by
        subst e
        have x1 := (List.getElem?_eq_some_iff.mp hi)
        have x2 := (List.getElem?_eq_some_iff.mp h1)
        exact hj ((List.getElem_inj q.nd).mp (x1.2.trans x2.2.symm))
      exact ⟨b, h1, h2.mono e (upd_ne hne)⟩
  · by_cases hj : i = j
    · subst hj
      simp only [Sto.put] at h
      rw [List.getElem?_set_self hil] at h
      cases h
      simp only [Sto.put]
      split <;> omega
    · simp only [Sto.put] at h
      rw [List.getElem?_set_ne hj] at h
      have := q.ref j o' h
      omega
/-- places at the end are forgotten -/
theorem Ex.cut {m : Nat} (e : Ex L H L' H') (hm : L.length ≤ m) : Ex L H (L'.take m) H' := by
  refine ⟨?_, e.frm, e.tup, e.frz, fun a h => e.new a (List.mem_of_mem_take h)⟩
  obtain ⟨r, rfl⟩ := e.pre
  rw [List.take_append, List.take_of_length_le hm]
  exact ⟨_, rfl⟩
theorem OD.cut {a : Addr} {o : O} (m : Nat) (d : OD K mg L H a o) (h : o.hi ≤ m) : OD K mg (L.take m) H a o := by
  cases o with
  | lst ts => obtain ⟨vs, e1, q⟩ := d; exact ⟨vs, e1, q.cut m h⟩
  | dct kvs => obtain ⟨vs, e1, q1, q2⟩ := d; exact ⟨vs, e1, q1, q2.cut m h⟩
  | ins C fs => obtain ⟨Ca, dx, fs', e1, e2, q1, q2⟩ := d; exact ⟨Ca, dx, fs', e1, e2, q1, q2.cut m h⟩
theorem Rl.cut (q : Rl K mg L s H) {m : Nat} (hm : s.kp ≤ m) : Rl K mg (L.take m) (s.cut m) H := by
  have hl := q.len
  refine ⟨by simp [Sto.cut, q.len], q.nd.sublist (List.take_sublist _ _), by simp only [Sto.cut, List.length_take]; have := q.kp; omega, fun i o h => ?_, fun i o h => ?_⟩
  · simp only [Sto.cut] at h
    have him : i < m := by
      have := (List.getElem?_eq_some_iff.mp h).1
      simp at this; omega
    rw [List.getElem?_take_of_lt him] at h
    obtain ⟨a, h1, h2⟩ := q.obj i o h
    have hr := q.ref i o h
    exact ⟨a, by rw [List.getElem?_take_of_lt him]; exact h1, h2.cut m (by omega)⟩
  · simp only [Sto.cut] at h ⊢
    have him : i < m := by
      have := (List.getElem?_eq_some_iff.mp h).1
      simp at this; omega
    rw [List.getElem?_take_of_lt him] at h
    exact q.ref i o h
theorem XD.cut {cls : Value} {d : Option Addr} {x : Exn} (q : XD K mg L H cls d x) {m : Nat} (h : x.hi ≤ m) : XD K mg (L.take m) H cls d x := by
  obtain ⟨Ca, h1, h2, h3⟩ := q
  refine ⟨Ca, h1, h2, ?_⟩
  rcases h3 with h3 | ⟨dx, fs', h4, h5, h6, h7⟩
  · exact .inl h3
  · exact .inr ⟨dx, fs', h4, h5, h6, h7.cut m h⟩
end

/-! ### what is wanted behind an outcome -/
section
variable (K : PySem.W.Frag) (mg : Str → Option Value)
def PostV (L : List Addr) (H : Hp) (Q : VK) : OV → Prop
  | some (t, s) => ∀ v L' H', Ex L H L' H' → Rl K mg L' s H' → D K mg L' H' v t → Q v H'
  | none => False
def PostE (W : WX) (L : List Addr) (H : Hp) (σ : St) (Q : VK) : Out → Prop
  | .ok t s => ∀ v L' H', Ex L H L' H' → Rl K mg L' s H' → D K mg L' H' v t → Q v H'
  | .exc x s => ∀ cls d L' H', Ex L H L' H' → Rl K mg L' s H' → XD K mg L' H' cls d x → W cls d σ H'
  | .bad => False
def PostL (W : WX) (L : List Addr) (H : Hp) (σ : St) (Q : List V → Hp → Prop) : OutL → Prop
  | .ok ts s => ∀ vs L' H', Ex L H L' H' → Rl K mg L' s H' → Ds K mg L' H' vs ts → Q vs H'
  | .exc x s => ∀ cls d L' H', Ex L H L' H' → Rl K mg L' s H' → XD K mg L' H' cls d x → W cls d σ H'
  | .bad => False
def PostB (W : WX) (L : List Addr) (H : Hp) (σ : St) (Q : Bool → Hp → Prop) : OutB → Prop
  | .ok k s => ∀ L' H', Ex L H L' H' → Rl K mg L' s H' → Q k H'
  | .exc x s => ∀ cls d L' H', Ex L H L' H' → Rl K mg L' s H' → XD K mg L' H' cls d x → W cls d σ H'
  | .bad => False
def PostS (W : WX) (L : List Addr) (H : Hp) (Z : Ends) : Fl → Prop
  | .nx r s => ∀ σ L' H', Ex L H L' H' → Rl K mg L' s H' → Er K mg L' H' σ r → Z.nx σ H'
  | .rt t s => ∀ v L' H', Ex L H L' H' → Rl K mg L' s H' → D K mg L' H' v t → Z.rt v H'
  | .bk r s => ∀ σ L' H', Ex L H L' H' → Rl K mg L' s H' → Er K mg L' H' σ r → Z.bk σ H'
  | .ct r s => ∀ σ L' H', Ex L H L' H' → Rl K mg L' s H' → Er K mg L' H' σ r → Z.ct σ H'
  | .ex x r s => ∀ cls d σ L' H', Ex L H L' H' → Rl K mg L' s H' → Er K mg L' H' σ r → XD K mg L' H' cls d x → W cls d σ H'
  | .bad => False
/-- a target's -/
def PostG (W : WX) (L : List Addr) (H : Hp) (P : St → Prop) (Q : St → Hp → Prop) : Fl → Prop
  | .nx r s => ∀ σ L' H', Ex L H L' H' → Rl K mg L' s H' → Er K mg L' H' σ r → P σ → Q σ H'
  | .ex x r s => ∀ cls d σ L' H', Ex L H L' H' → Rl K mg L' s H' → Er K mg L' H' σ r → XD K mg L' H' cls d x → W cls d σ H'
  | _ => False
def lE (W : WX) (f : Ev) : TE := fun σ H Q => ∃ L r s, Rl K mg L s H ∧ Er K mg L H σ r ∧ PostE K mg W L H σ Q (f r s)
def lL (W : WX) (f : Lv) : TA := fun σ H Q => ∃ L r s, Rl K mg L s H ∧ Er K mg L H σ r ∧ PostL K mg W L H σ Q (f r s)
def lB (W : WX) (f : Bv) : TT := fun σ H Q => ∃ L r s, Rl K mg L s H ∧ Er K mg L H σ r ∧ PostB K mg W L H σ Q (f r s)
def lS (W : WX) (f : Sv) : TS := fun Z σ H => ∃ L r s, Rl K mg L s H ∧ Er K mg L H σ r ∧ PostS K mg W L H Z (f r s)
def lG (W : WX) (vs : List Nat) (f : Gv) : TG := fun v σ H Q => ∃ L r s t, Rl K mg L s H ∧ Er K mg L H σ r ∧ D K mg L H v t ∧ PostG K mg W L H (fun σ' => wipe σ' vs = wipe σ vs) Q (f t r s)
def lGs (W : WX) (ws : List Nat) (f : List T → Env → Sto → Fl) : TGs := fun vs σ H Q => ∃ L r s ts, Rl K mg L s H ∧ Er K mg L H σ r ∧ Ds K mg L H vs ts ∧ PostG K mg W L H (fun σ' => wipe σ' ws = wipe σ ws) Q (f ts r s)
end
section
variable {K : PySem.W.Frag} {mg : Str → Option Value} {W : WX} {L L' : List Addr} {H H' : Hp} {σ : St}
theorem PostV.ex {Q : VK} {o : OV} (p : PostV K mg L H Q o) (e : Ex L H L' H') : PostV K mg L' H' Q o := by
  match o, p with
  | some (t, s), p => exact fun v L2 H2 e2 => p v L2 H2 (e.trans e2)
theorem PostE.ex {Q : VK} {o : Out} (p : PostE K mg W L H σ Q o) (e : Ex L H L' H') : PostE K mg W L' H' σ Q o := by
  cases o with
  | ok t s => exact fun v L2 H2 e2 => p v L2 H2 (e.trans e2)
  | exc x s => exact fun c d L2 H2 e2 => p c d L2 H2 (e.trans e2)
  | bad => exact p
theorem PostL.ex {Q : List V → Hp → Prop} {o : OutL} (p : PostL K mg W L H σ Q o) (e : Ex L H L' H') : PostL K mg W L' H' σ Q o := by
  cases o with
  | ok t s => exact fun v L2 H2 e2 => p v L2 H2 (e.trans e2)
  | exc x s => exact fun c d L2 H2 e2 => p c d L2 H2 (e.trans e2)
  | bad => exact p
theorem PostB.ex {Q : Bool → Hp → Prop} {o : OutB} (p : PostB K mg W L H σ Q o) (e : Ex L H L' H') : PostB K mg W L' H' σ Q o := by
  cases o with
  | ok t s => exact fun L2 H2 e2 => p L2 H2 (e.trans e2)
  | exc x s => exact fun c d L2 H2 e2 => p c d L2 H2 (e.trans e2)
  | bad => exact p
theorem PostS.ex {Z : Ends} {o : Fl} (p : PostS K mg W L H Z o) (e : Ex L H L' H') : PostS K mg W L' H' Z o := by
  cases o with
  | nx r s => exact fun σ L2 H2 e2 => p σ L2 H2 (e.trans e2)
  | rt t s => exact fun v L2 H2 e2 => p v L2 H2 (e.trans e2)
  | bk r s => exact fun σ L2 H2 e2 => p σ L2 H2 (e.trans e2)
  | ct r s => exact fun σ L2 H2 e2 => p σ L2 H2 (e.trans e2)
  | ex x r s => exact fun c d σ L2 H2 e2 => p c d σ L2 H2 (e.trans e2)
  | bad => exact p
theorem PostG.ex {P : St → Prop} {Q : St → Hp → Prop} {o : Fl} (p : PostG K mg W L H P Q o) (e : Ex L H L' H') : PostG K mg W L' H' P Q o := by
  cases o with
  | nx r s => exact fun σ L2 H2 e2 => p σ L2 H2 (e.trans e2)
  | ex x r s => exact fun c d σ L2 H2 e2 => p c d σ L2 H2 (e.trans e2)
  | rt t s => exact p
  | bk r s => exact p
  | ct r s => exact p
  | bad => exact p
theorem PostV.of {Q : VK} {o : OV} (p : PostE K mg W L H σ Q (vOut o)) : PostV K mg L H Q o := by
  match o, p with
  | some (t, s), p => exact p
  | none, p => exact p
end
end Fx

set_option maxRecDepth 100000
set_option maxHeartbeats 2000000
/-! Fx: the functional readings are true of the model: expressions, tests, statements, calls. -/
namespace Fx
open PySem L2 PyProof.Rows

theorem PEw {X : Cx} {e : Expr} {t t' : TE} (h : PE X e t) (w : ∀ σ H Q, t' σ H Q → t σ H Q) : PE X e t' := ⟨fun p s σ H Q I q => h.run p s σ H Q I (w σ H Q q)⟩
theorem PTw {X : Cx} {e : Expr} {t t' : TT} (h : PT X e t) (w : ∀ σ H Q, t' σ H Q → t σ H Q) : PT X e t' := ⟨fun p s σ H Q I q => h.run p s σ H Q I (w σ H Q q)⟩
theorem PWw {X : Cx} {e : Expr} {t t' : TT} (h : PW X e t) (w : ∀ σ H Q, t' σ H Q → t σ H Q) : PW X e t' := ⟨fun wh p s σ H Q I q => h.run wh p s σ H Q I (w σ H Q q)⟩
theorem PAw {X : Cx} {e : List Expr} {t t' : TA} (h : PA X e t) (w : ∀ σ H Q, t' σ H Q → t σ H Q) : PA X e t' := ⟨fun q p s σ H Q I x => h.run q p s σ H Q I (w σ H Q x)⟩
theorem PSw {X : Cx} {e : Stmt} {t t' : TS} (h : PS X e t) (w : ∀ Z σ H, t' Z σ H → t Z σ H) : PS X e t' := ⟨fun p s σ H Z I q => h.run p s σ H Z I (w Z σ H q)⟩
theorem PSsw {X : Cx} {e : List Stmt} {t t' : TS} (h : PSs X e t) (w : ∀ Z σ H, t' Z σ H → t Z σ H) : PSs X e t' := ⟨fun p s σ H Z I q => h.run p s σ H Z I (w Z σ H q)⟩
theorem PGw {X : Cx} {e : Expr} {t t' : TG} (h : PG X e t) (w : ∀ v σ H Q, t' v σ H Q → t v σ H Q) : PG X e t' := ⟨fun p s σ H v u Q I r q => h.run p s σ H v u Q I r (w v σ H Q q)⟩
theorem PGsw {X : Cx} {e : List Expr} {t t' : TGs} (h : PGs X e t) (w : ∀ v σ H Q, t' v σ H Q → t v σ H Q) : PGs X e t' := ⟨fun p s σ H v u Q I r q => h.run p s σ H v u Q I r (w v σ H Q q)⟩

/-- an expression's functional reading -/
abbrev FE (X : Cx) (W : WX) (e : Expr) (f : Ev) : Prop := PE X e (lE X.K X.mg W f)
abbrev FL (X : Cx) (W : WX) (es : List Expr) (f : Lv) : Prop := PA X es (lL X.K X.mg W f)
abbrev FB (X : Cx) (W : WX) (e : Expr) (f : Bv) : Prop := PT X e (lB X.K X.mg W f)
abbrev FW (X : Cx) (W : WX) (e : Expr) (f : Bv) : Prop := PW X e (lB X.K X.mg W f)
abbrev FS (X : Cx) (W : WX) (e : Stmt) (f : Sv) : Prop := PS X e (lS X.K X.mg W f)
abbrev FSs (X : Cx) (W : WX) (e : List Stmt) (f : Sv) : Prop := PSs X e (lS X.K X.mg W f)
abbrev FG (X : Cx) (W : WX) (vs : List Nat) (e : Expr) (f : Gv) : Prop := PG X e (lG X.K X.mg W vs f)
abbrev FGs (X : Cx) (W : WX) (vs : List Nat) (e : List Expr) (f : List T → Env → Sto → Fl) : Prop := PGs X e (lGs X.K X.mg W vs f)
/-- by values: an operator of two, of one, a call -/
def rO (K : PySem.W.Frag) (mg : Str → Option Value) (g : T → T → Sto → OV) : R2 := fun x y H Q => ∃ L s t1 t2, Rl K mg L s H ∧ D K mg L H x t1 ∧ D K mg L H y t2 ∧ PostV K mg L H Q (g t1 t2 s)
def OpF (X : Cx) (f : Value → Value → Sem Value) (g : T → T → Sto → OV) : Prop := OpR X f (rO X.K X.mg g)
def rU1 (K : PySem.W.Frag) (mg : Str → Option Value) (g : T → Sto → OV) : V → Hp → VK → Prop := fun x H Q => ∃ L s t, Rl K mg L s H ∧ D K mg L H x t ∧ PostV K mg L H Q (g t s)
def UnF (X : Cx) (f : Value → Sem Value) (g : T → Sto → OV) : Prop := UnR X f (rU1 X.K X.mg g)
def rC (K : PySem.W.Frag) (mg : Str → Option Value) (g : List T → Sto → OV) : List V → Hp → VK → Prop := fun vs H Q => ∃ L s ts, Rl K mg L s H ∧ Ds K mg L H vs ts ∧ PostV K mg L H Q (g ts s)
def CallF (X : Cx) (f : Value) (g : List T → Sto → OV) : Prop := CallR X f (rC X.K X.mg g)
theorem OpF.of {X : Cx} {f : Value → Value → Sem Value} {g : T → T → Sto → OV} (h : ∀ L s t1 t2 x y H Q, Rl X.K X.mg L s H → D X.K X.mg L H x t1 → D X.K X.mg L H y t2 → PostV X.K X.mg L H Q (g t1 t2 s) → ∃ r, OpR X f r ∧ r x y H Q) : OpF X f g := by
  intro pins s σ H x y v u Q I rx ry ⟨L, st, t1, t2, hR, h1, h2, hp⟩
  obtain ⟨r, hr, hq⟩ := h L st t1 t2 x y H Q hR h1 h2 hp
  exact hr pins s σ H x y v u Q I rx ry hq
theorem UnF.of {X : Cx} {f : Value → Sem Value} {g : T → Sto → OV} (h : ∀ L s t x H Q, Rl X.K X.mg L s H → D X.K X.mg L H x t → PostV X.K X.mg L H Q (g t s) → ∃ r, UnR X f r ∧ r x H Q) : UnF X f g := by
  intro pins s σ H x v Q I rx ⟨L, st, t, hR, h1, hp⟩
  obtain ⟨r, hr, hq⟩ := h L st t x H Q hR h1 hp
  exact hr pins s σ H x v Q I rx hq
theorem CallF.of {X : Cx} {f : Value} {g : List T → Sto → OV} (h : ∀ L s ts vs H Q, Rl X.K X.mg L s H → Ds X.K X.mg L H vs ts → PostV X.K X.mg L H Q (g ts s) → ∃ r, CallR X f r ∧ r vs H Q) : CallF X f g := by
  intro pins s σ H vs us Q I rv ⟨L, st, ts, hR, h1, hp⟩
  obtain ⟨r, hr, hq⟩ := h L st ts vs H Q hR h1 hp
  exact hr pins s σ H vs us Q I rv hq

/-! ### the context -/
structure Bx (X : Cx) (N : List Str) (sc : Scope) : Prop where
  hN : X.N = N
  hs : X.env.scope = sc
  nd : N.Nodup
  calm : X.calm = true
theorem Bx.nd' {X : Cx} {N : List Str} {sc : Scope} (b : Bx X N sc) : X.N.Nodup := by rw [b.hN]; exact b.nd
theorem Bx.at {X : Cx} {N : List Str} {sc : Scope} (b : Bx X N sc) {i : Nat} {x : Str} (h : N[i]? = some x) : X.N[i]? = some x := by rw [b.hN]; exact h
theorem Bx.vis {X : Cx} {N : List Str} {sc : Scope} (b : Bx X N sc) {x : Str} (h : (match sc.names.lookup x with | some .local => true | some .cell => true | some .free => true | _ => false) = true) : Vis X.env.scope x := by
  unfold Vis
  rw [b.hs]
  revert h
  split <;> simp_all
theorem Bx.gl {X : Cx} {N : List Str} {sc : Scope} (b : Bx X N sc) {x : Str} (h : sc.names.lookup x = some .globalImplicit) : Gl X x := by
  unfold Gl Env.kindOf
  rw [b.hs]; exact h
theorem Bx.loc {X : Cx} {N : List Str} {sc : Scope} (b : Bx X N sc) {x : Str} (h : sc.names.lookup x = some .local) : X.env.scope.names.lookup x = some .local := by rw [b.hs]; exact h

section
variable {X : Cx} {W : WX} {N : List Str} {sc : Scope} {pos : Pos} {a b c : Expr} {fa fb fc : Ev}

/-! ### names, constants -/
theorem r_var {i : Nat} {x : Str} (B : Bx X N sc) (hi : N[i]? = some x) (hv : (match sc.names.lookup x with | some .local => true | some .cell => true | some .free => true | _ => false) = true) (hd : (x == ("__debug__" : Str)) = false := by decide) (hcd : (x == ("__classdict__" : Str)) = false := by decide) : FE X W (.Name x pos) (eVar i) := by
  refine PEw (pe_var (B.at hi) (B.vis hv) hd hcd) fun σ H Q ⟨L, r, s, hR, hE, hp⟩ => ?_
  unfold eVar at hp
  split at hp
  · rename_i t ht
    obtain ⟨v, h1, h2⟩ := hE.val _ _ ht
    exact ⟨v, h1, hp v L H Ex.refl hR h2⟩
  · exact hp.elim
theorem r_int {i : Int} {j : Nat} : FE X W (.Constant (.int i) j pos) (eC (.int i)) := PEw pe_int fun σ H Q ⟨L, r, s, hR, hE, hp⟩ => hp _ L H Ex.refl hR (.int i)
theorem r_bl {k : Bool} {j : Nat} : FE X W (.Constant (.bool k) j pos) (eC (.bl k)) := PEw pe_bl fun σ H Q ⟨L, r, s, hR, hE, hp⟩ => hp _ L H Ex.refl hR (.bl k)
theorem r_non {j : Nat} : FE X W (.Constant .none j pos) (eC .non) := PEw pe_non fun σ H Q ⟨L, r, s, hR, hE, hp⟩ => hp _ L H Ex.refl hR .non
theorem r_str {x : Str} {j : Nat} : FE X W (.Constant (.str x) j pos) (eC (.str x)) := PEw pe_str fun σ H Q ⟨L, r, s, hR, hE, hp⟩ => hp _ L H Ex.refl hR (.str x)
/-- a constant of the module -/
theorem r_gint {x : Str} {i : Int} (B : Bx X N sc) (hg : sc.names.lookup x = some .globalImplicit) (hm : ∃ t, X.mg x = some (.int i t)) (hd : (x == ("__debug__" : Str)) = false := by decide) : FE X W (.Name x pos) (eC (.int i)) := by
  obtain ⟨t, hm⟩ := hm
  exact PEw (pe_glob (v := .int i) (B.gl hg) hm ⟨t, rfl⟩ hd) fun σ H Q ⟨L, r, s, hR, hE, hp⟩ => hp _ L H Ex.refl hR (.int i)
theorem r_gstr {x z : Str} (B : Bx X N sc) (hg : sc.names.lookup x = some .globalImplicit) (hm : ∃ t, X.mg x = some (.str z t)) (hd : (x == ("__debug__" : Str)) = false := by decide) : FE X W (.Name x pos) (eC (.str z)) := by
  obtain ⟨t, hm⟩ := hm
  exact PEw (pe_glob (v := .str z) (B.gl hg) hm ⟨t, rfl⟩ hd) fun σ H Q ⟨L, r, s, hR, hE, hp⟩ => hp _ L H Ex.refl hR (.str z)
/-- a class or a def of the module, as a value -/
theorem r_glo {x : String} {p : Addr} (B : Bx X N sc) (hg : sc.names.lookup (Str.ofString x) = some .globalImplicit) (hm : X.mg (Str.ofString x) = some (.ref p)) (hd : (Str.ofString x == ("__debug__" : Str)) = false := by decide) : FE X W (.Name (Str.ofString x) pos) (eC (.glo x)) :=
  PEw (pe_glob (v := .ref p) (B.gl hg) hm rfl hd) fun σ H Q ⟨L, r, s, hR, hE, hp⟩ => hp _ L H Ex.refl hR (.glo hm)
/-- a built-in class as a value -/
theorem r_ty {x : Str} {n : String} (B : Bx X N sc) (hg : sc.names.lookup x = some .globalImplicit) (hm : X.mg x = none) (hv : bootBuiltins x = some (.type n)) (hn : x ≠ "__name__" := by decide) (hd : (x == ("__debug__" : Str)) = false := by decide) : FE X W (.Name x pos) (eC (.ty n)) :=
  PEw (pe_bltn (v := .ty n) (B.gl hg) hm hv rfl hn hd) fun σ H Q ⟨L, r, s, hR, hE, hp⟩ => hp _ L H Ex.refl hR (.ty n)

/-! ### operators -/
/-- what lies behind an expression -/
theorem lE_bnd {f : Ev} {k : T → Sto → Out} {σ : L2.St} {H : Hp} {Q : VK} {L : List Addr} {r : Env} {s : Sto} {R : VK} (hR : Rl X.K X.mg L s H) (hE : Er X.K X.mg L H σ r) (hp : PostE X.K X.mg W L H σ Q ((f r s).bnd k))
    (go : ∀ t s' v L' H', Ex L H L' H' → Rl X.K X.mg L' s' H' → Er X.K X.mg L' H' σ r → D X.K X.mg L' H' v t → PostE X.K X.mg W L' H' σ Q (k t s') → R v H') : lE X.K X.mg W f σ H R := by
  refine ⟨L, r, s, hR, hE, ?_⟩
  cases e : f r s with
  | ok t s' =>
    rw [e] at hp
    exact fun v L' H' x hR' hd => go t s' v L' H' x hR' (hE.mono x) hd (PostE.ex hp x)
  | exc x s' => rw [e] at hp; exact hp
  | bad => rw [e] at hp; exact hp
theorem r_bin {op : Operator} {g : T → T → Sto → OV} (ho : OpF X (binaryOp op) g) (ha : FE X W a fa) (hb : FE X W b fb) : FE X W (.BinOp a op b pos) (eBin g fa fb) := by
  refine PEw (pe_op ho ha hb) fun σ H Q ⟨L, r, s, hR, hE, hp⟩ => ?_
  refine lE_bnd hR hE hp fun t1 s1 v1 L1 H1 x1 R1 E1 d1 p1 => ?_
  refine lE_bnd R1 E1 p1 fun t2 s2 v2 L2 H2 x2 R2 E2 d2 p2 => ?_
  exact ⟨L2, s2, t1, t2, R2, d1.mono x2, d2, PostV.of p2⟩
theorem r_un {op : UnaryOp} {g : T → Sto → OV} (ho : UnF X (unaryOp op) g) (ha : FE X W a fa) : FE X W (.UnaryOp op a pos) (eUn g fa) := by
  refine PEw (pe_un ho ha) fun σ H Q ⟨L, r, s, hR, hE, hp⟩ => ?_
  refine lE_bnd hR hE hp fun t1 s1 v1 L1 H1 x1 R1 E1 d1 p1 => ?_
  exact ⟨L1, s1, t1, R1, d1, PostV.of p1⟩
theorem r_cmp {op : CmpOp} {g : T → T → Sto → OV} (ho : OpF X (compareOp op) g) (hm : behindInMarks op b = false) (ha : FE X W a fa) (hb : FE X W b fb) : FE X W (.Compare a [op] [b] pos) (eBin g fa fb) := by
  refine PEw (pe_cmpR ho ha hb hm) fun σ H Q ⟨L, r, s, hR, hE, hp⟩ => ?_
  refine lE_bnd hR hE hp fun t1 s1 v1 L1 H1 x1 R1 E1 d1 p1 => ?_
  refine lE_bnd R1 E1 p1 fun t2 s2 v2 L2 H2 x2 R2 E2 d2 p2 => ?_
  exact ⟨L2, s2, t1, t2, R2, d1.mono x2, d2, PostV.of p2⟩
theorem r_chain {op op' : CmpOp} {g h : T → T → Sto → OV} (ho : OpF X (compareOp op) g) (ho' : OpF X (compareOp op') h) (hm : lastMarks [op, op'] [b, c] = false) (ha : FE X W a fa) (hb : FE X W b fb) (hc : FE X W c fc) : FE X W (.Compare a [op, op'] [b, c] pos) (eChain g h fa fb fc) := by
  refine PEw (pe_chain ho ho' ha hb hc hm) fun σ H Q ⟨L, r, s, hR, hE, hp⟩ => ?_
  refine lE_bnd hR hE hp fun t1 s1 v1 L1 H1 x1 R1 E1 d1 p1 => ?_
  refine lE_bnd R1 E1 p1 fun t2 s2 v2 L2 H2 x2 R2 E2 d2 p2 => ?_
  refine ⟨L2, s2, t1, t2, R2, d1.mono x2, d2, ?_⟩
  match e : g t1 t2 s2 with
  | none => simp only [e] at p2; exact p2
  | some (t, s3) =>
    simp only [e] at p2
    cases t with
    | bl k =>
      refine fun v L3 H3 x3 R3 d3 => ?_
      cases d3
      refine ⟨k, rfl, ?_⟩
      cases k with
      | true =>
        simp only [if_true] at p2 ⊢
        refine lE_bnd R3 (E2.mono x3) (PostE.ex p2 x3) fun t4 s4 v4 L4 H4 x4 R4 E4 d4 p4 => ?_
        exact ⟨L4, s4, t2, t4, R4, (d2.mono x3).mono x4, d4, PostV.of p4⟩
      | false =>
        simp only [Bool.false_eq_true, if_false] at p2 ⊢
        exact p2 _ L3 H3 x3 R3 (.bl false)
    | _ => exact p2.elim

/-! ### truth -/
theorem tru_of {L : List Addr} {s : Sto} {H : Hp} {v : V} {t : T} {k : Bool} (hR : Rl X.K X.mg L s H) (d : D X.K X.mg L H v t) (h : tru t s = some k) : TruV X.K v H k := by
  cases d with
  | non => cases h; rfl
  | bl b => cases h; rfl
  | int i => cases h; show decide (i ≠ 0) = (i != 0); by_cases hi : i = 0 <;> simp [hi]
  | str x =>
    simp only [tru] at h
    split at h
    · rename_i hz
      cases h
      refine ⟨hz, ?_⟩
      by_cases hx : x.length = 0 <;> simp [hx]
    · cases h
  | ty n => simp [tru] at h
  | glo q => simp [tru] at h
  | loc q =>
    rename_i n p
    simp only [tru] at h
    split at h
    · rename_i ts e
      cases h
      obtain ⟨p', h1, vs, h2, h3⟩ := hR.get e
      rw [q] at h1; cases h1
      refine .inl ⟨vs, .inl (.inl h2), ?_⟩
      have := h3.length
      cases vs <;> cases ts <;> simp_all
    · cases h
  | tup q q2 =>
    rename_i p vs ts
    cases h
    refine .inr (.inl ⟨vs, q.sq, ?_⟩)
    have := q2.length
    cases vs <;> cases ts <;> simp_all
  | frz q q2 =>
    rename_i p vs ts
    cases h
    refine .inl ⟨vs, q.sq, ?_⟩
    have := q2.length
    cases vs <;> cases ts <;> simp_all
theorem r_and {rest : List Expr} (ha : FE X W a fa) (hb : FE X W (.BoolOp .And (b :: rest) pos) fb) : FE X W (.BoolOp .And (a :: b :: rest) pos) (eAnd fa fb) := by
  refine PEw (pe_andT ha hb) fun σ H Q ⟨L, r, s, hR, hE, hp⟩ => ?_
  refine lE_bnd hR hE hp fun t1 s1 v1 L1 H1 x1 R1 E1 d1 p1 => ?_
  cases e : tru t1 s1 with
  | none => rw [e] at p1; exact p1.elim
  | some k =>
    rw [e] at p1
    refine ⟨k, tru_of R1 d1 e, ?_⟩
    cases k with
    | true =>
      simp only [if_true] at p1 ⊢
      exact ⟨L1, r, s1, R1, E1, p1⟩
    | false =>
      simp only [Bool.false_eq_true, if_false] at p1 ⊢
      exact p1 v1 L1 H1 Ex.refl R1 d1
theorem r_or {rest : List Expr} (ha : FE X W a fa) (hb : FE X W (.BoolOp .Or (b :: rest) pos) fb) : FE X W (.BoolOp .Or (a :: b :: rest) pos) (eOr fa fb) := by
  refine PEw (pe_orT ha hb) fun σ H Q ⟨L, r, s, hR, hE, hp⟩ => ?_
  refine lE_bnd hR hE hp fun t1 s1 v1 L1 H1 x1 R1 E1 d1 p1 => ?_
  cases e : tru t1 s1 with
  | none => rw [e] at p1; exact p1.elim
  | some k =>
    rw [e] at p1
    refine ⟨k, tru_of R1 d1 e, ?_⟩
    cases k with
    | true =>
      simp only [if_true] at p1 ⊢
      exact p1 v1 L1 H1 Ex.refl R1 d1
    | false =>
      simp only [Bool.false_eq_true, if_false] at p1 ⊢
      exact ⟨L1, r, s1, R1, E1, p1⟩
theorem r_one {op : BoolOp} (ha : FE X W a fa) : FE X W (.BoolOp op [a] pos) fa := pe_one ha
theorem r_not (ha : FE X W a fa) : FE X W (.UnaryOp .Not a pos) (eNot fa) := by
  refine PEw (pe_notT ha) fun σ H Q ⟨L, r, s, hR, hE, hp⟩ => ?_
  refine lE_bnd hR hE hp fun t1 s1 v1 L1 H1 x1 R1 E1 d1 p1 => ?_
  cases e : tru t1 s1 with
  | none => rw [e] at p1; exact p1.elim
  | some k =>
    rw [e] at p1
    exact ⟨k, tru_of R1 d1 e, p1 _ L1 H1 Ex.refl R1 (.bl _)⟩

/-! ### tests -/
theorem lE_bndB {f : Ev} {k : T → Sto → OutB} {σ : L2.St} {H : Hp} {Q : Bool → Hp → Prop} {L : List Addr} {r : Env} {s : Sto} {R : VK} (hR : Rl X.K X.mg L s H) (hE : Er X.K X.mg L H σ r) (hp : PostB X.K X.mg W L H σ Q ((f r s).bndB k))
    (go : ∀ t s' v L' H', Ex L H L' H' → Rl X.K X.mg L' s' H' → Er X.K X.mg L' H' σ r → D X.K X.mg L' H' v t → PostB X.K X.mg W L' H' σ Q (k t s') → R v H') : lE X.K X.mg W f σ H R := by
  refine ⟨L, r, s, hR, hE, ?_⟩
  cases e : f r s with
  | ok t s' =>
    rw [e] at hp
    exact fun v L' H' x hR' hd => go t s' v L' H' x hR' (hE.mono x) hd (PostB.ex hp x)
  | exc x s' => rw [e] at hp; exact hp
  | bad => rw [e] at hp; exact hp
theorem lB_bndB {f : Bv} {k : Bool → Sto → OutB} {σ : L2.St} {H : Hp} {Q : Bool → Hp → Prop} {L : List Addr} {r : Env} {s : Sto} {R : Bool → Hp → Prop} (hR : Rl X.K X.mg L s H) (hE : Er X.K X.mg L H σ r) (hp : PostB X.K X.mg W L H σ Q ((f r s).bndB k))
    (go : ∀ t s' L' H', Ex L H L' H' → Rl X.K X.mg L' s' H' → Er X.K X.mg L' H' σ r → PostB X.K X.mg W L' H' σ Q (k t s') → R t H') : lB X.K X.mg W f σ H R := by
  refine ⟨L, r, s, hR, hE, ?_⟩
  cases e : f r s with
  | ok t s' =>
    rw [e] at hp
    exact fun L' H' x hR' => go t s' L' H' x hR' (hE.mono x) (PostB.ex hp x)
  | exc x s' => rw [e] at hp; exact hp
  | bad => rw [e] at hp; exact hp
theorem lB_bnd {f : Bv} {k : Bool → Sto → Out} {σ : L2.St} {H : Hp} {Q : VK} {L : List Addr} {r : Env} {s : Sto} {R : Bool → Hp → Prop} (hR : Rl X.K X.mg L s H) (hE : Er X.K X.mg L H σ r) (hp : PostE X.K X.mg W L H σ Q ((f r s).bnd k))
    (go : ∀ t s' L' H', Ex L H L' H' → Rl X.K X.mg L' s' H' → Er X.K X.mg L' H' σ r → PostE X.K X.mg W L' H' σ Q (k t s') → R t H') : lB X.K X.mg W f σ H R := by
  refine ⟨L, r, s, hR, hE, ?_⟩
  cases e : f r s with
  | ok t s' =>
    rw [e] at hp
    exact fun L' H' x hR' => go t s' L' H' x hR' (hE.mono x) (PostE.ex hp x)
  | exc x s' => rw [e] at hp; exact hp
  | bad => rw [e] at hp; exact hp
/-- any expression by its truth -/
theorem t_tru (ha : FE X W a fa) (he : ∀ whole, isTrue a X.env whole = (do let v ← whole; standAt a.pos; holding [v] (truthy v)) := by intro _; rfl) : FB X W a (bT fa) := by
  refine PTw (pt_truth ha he) fun σ H Q ⟨L, r, s, hR, hE, hp⟩ => ?_
  refine lE_bndB hR hE hp fun t1 s1 v1 L1 H1 x1 R1 E1 d1 p1 => ?_
  cases e : tru t1 s1 with
  | none => rw [e] at p1; exact p1.elim
  | some k => rw [e] at p1; exact ⟨k, tru_of R1 d1 e, p1 L1 H1 Ex.refl R1⟩
theorem t_cmp {op : CmpOp} {g : T → T → Sto → OV} (ho : OpF X (compareOp op) g) (hm : behindInMarks op b = false) (ha : FE X W a fa) (hb : FE X W b fb) : FB X W (.Compare a [op] [b] pos) (bV (eBin g fa fb)) := by
  refine PTw (pt_cmpR ho ha hb hm) fun σ H Q ⟨L, r, s, hR, hE, hp⟩ => ?_
  have hp' : PostB X.K X.mg W L H σ Q ((fa r s).bndB fun t1 s1 => (fb r s1).bndB fun t2 s2 => (vOut (g t1 t2 s2)).bndB fun t s => match t with | .bl k => .ok k s | _ => .bad) := by
    simp only [bV, eBin] at hp
    revert hp
    cases fa r s with
    | ok t1 s1 =>
      simp only [Out.bnd, Out.bndB]
      cases fb r s1 with
      | ok t2 s2 => exact id
      | exc x s2 => exact id
      | bad => exact id
    | exc x s1 => exact id
    | bad => exact id
  refine lE_bndB hR hE hp' fun t1 s1 v1 L1 H1 x1 R1 E1 d1 p1 => ?_
  refine lE_bndB R1 E1 p1 fun t2 s2 v2 L2 H2 x2 R2 E2 d2 p2 => ?_
  refine ⟨L2, s2, t1, t2, R2, d1.mono x2, d2, ?_⟩
  match e : g t1 t2 s2 with
  | none => rw [e] at p2; exact p2
  | some (t, s3) =>
    rw [e] at p2
    refine fun v L3 H3 x3 R3 d3 => ?_
    cases d3 with
    | bl k => exact ⟨k, rfl, p2 L3 H3 x3 R3⟩
    | _ => exact p2.elim
theorem t_chain {op op' : CmpOp} {g h : T → T → Sto → OV} (ho : OpF X (compareOp op) g) (ho' : OpF X (compareOp op') h) (hm : lastMarks [op, op'] [b, c] = false) (ha : FE X W a fa) (hb : FE X W b fb) (hc : FE X W c fc) : FB X W (.Compare a [op, op'] [b, c] pos) (bV (eChain g h fa fb fc)) := by
  refine PTw (pt_chain ho ho' ha hb hc hm) fun σ H Q ⟨L, r, s, hR, hE, hp⟩ => ?_
  have hp' : PostB X.K X.mg W L H σ Q ((fa r s).bndB fun x s => (fb r s).bndB fun y s => match g x y s with
      | some (.bl k, s) => if k = true then (fc r s).bndB fun z s => (vOut (h y z s)).bndB fun t s => match t with | .bl k => .ok k s | _ => .bad else .ok false s
      | _ => .bad) := by
    simp only [bV, eChain] at hp
    revert hp
    cases fa r s with
    | ok t1 s1 =>
      simp only [Out.bnd, Out.bndB]
      cases fb r s1 with
      | ok t2 s2 =>
        simp only
        match g t1 t2 s2 with
        | none => exact id
        | some (t, s3) =>
          cases t with
          | bl k =>
            cases k with
            | false => exact id
            | true =>
              simp only [if_true]
              cases fc r s3 with
              | ok t3 s3 => exact id
              | exc x s2 => exact id
              | bad => exact id
          | _ => exact id
      | exc x s2 => exact id
      | bad => exact id
    | exc x s1 => exact id
    | bad => exact id
  refine lE_bndB hR hE hp' fun t1 s1 v1 L1 H1 x1 R1 E1 d1 p1 => ?_
  refine lE_bndB R1 E1 p1 fun t2 s2 v2 L2 H2 x2 R2 E2 d2 p2 => ?_
  refine ⟨L2, s2, t1, t2, R2, d1.mono x2, d2, ?_⟩
  match e : g t1 t2 s2 with
  | none => simp only [e] at p2; exact p2
  | some (t, s3) =>
    simp only [e] at p2
    cases t with
    | bl k =>
      refine fun v L3 H3 x3 R3 d3 => ?_
      cases d3
      refine ⟨k, rfl, ?_⟩
      cases k with
      | true =>
        simp only [if_true] at p2 ⊢
        refine lE_bndB R3 (E2.mono x3) (PostB.ex p2 x3) fun t4 s4 v4 L4 H4 x4 R4 E4 d4 p4 => ?_
        refine ⟨L4, s4, t2, t4, R4, (d2.mono x3).mono x4, d4, ?_⟩
        match e5 : h t2 t4 s4 with
        | none => rw [e5] at p4; exact p4
        | some (t, s5) =>
          rw [e5] at p4
          refine fun v L5 H5 x5 R5 d5 => ?_
          cases d5 with
          | bl k => exact ⟨k, rfl, p4 L5 H5 x5 R5⟩
          | _ => exact p4.elim
      | false =>
        simp only [Bool.false_eq_true, if_false] at p2 ⊢
        exact ⟨false, rfl, p2 L3 H3 x3 R3⟩
    | _ => exact p2.elim
variable {ba bb : Bv}
theorem t_not (ha : FB X W a ba) : FB X W (.UnaryOp .Not a pos) (bNot ba) := by
  refine PTw (pt_not ha) fun σ H Q ⟨L, r, s, hR, hE, hp⟩ => ?_
  exact lB_bndB hR hE hp fun t1 s1 L1 H1 x1 R1 E1 p1 => p1 L1 H1 Ex.refl R1
theorem t_and {rest : List Expr} (ha : FB X W a ba) (hb : FW X W (.BoolOp .And (b :: rest) pos) bb) : FW X W (.BoolOp .And (a :: b :: rest) pos) (bAnd ba bb) := by
  refine PWw (pw_and ha hb) fun σ H Q ⟨L, r, s, hR, hE, hp⟩ => ?_
  refine lB_bndB hR hE hp fun k s1 L1 H1 x1 R1 E1 p1 => ?_
  cases k with
  | true => exact ⟨L1, r, s1, R1, E1, p1⟩
  | false => exact p1 L1 H1 Ex.refl R1
theorem t_or {rest : List Expr} (ha : FB X W a ba) (hb : FW X W (.BoolOp .Or (b :: rest) pos) bb) : FW X W (.BoolOp .Or (a :: b :: rest) pos) (bOr ba bb) := by
  refine PWw (pw_or ha hb) fun σ H Q ⟨L, r, s, hR, hE, hp⟩ => ?_
  refine lB_bndB hR hE hp fun k s1 L1 H1 x1 R1 E1 p1 => ?_
  cases k with
  | false => exact ⟨L1, r, s1, R1, E1, p1⟩
  | true => exact p1 L1 H1 Ex.refl R1
theorem t_and1 (ha : FB X W a ba) : FW X W (.BoolOp .And [a] pos) ba := pw_and1 ha
theorem t_or1 (ha : FB X W a ba) : FW X W (.BoolOp .Or [a] pos) ba := pw_or1 ha
theorem r_if {e : Expr} (hc : FB X W e ba) (ha : FE X W a fa) (hb : FE X W b fb) : FE X W (.IfExp e a b pos) (eIf ba fa fb) := by
  refine PEw (pe_ifExp hc ha hb) fun σ H Q ⟨L, r, s, hR, hE, hp⟩ => ?_
  refine lB_bnd hR hE hp fun k s1 L1 H1 x1 R1 E1 p1 => ?_
  cases k with
  | true => exact ⟨L1, r, s1, R1, E1, p1⟩
  | false => exact ⟨L1, r, s1, R1, E1, p1⟩

/-! ### argument lists, displays -/
variable {es : List Expr} {fl : Lv}
theorem lE_bndL {f : Ev} {k : T → Sto → OutL} {σ : L2.St} {H : Hp} {Q : List V → Hp → Prop} {L : List Addr} {r : Env} {s : Sto} {R : VK} (hR : Rl X.K X.mg L s H) (hE : Er X.K X.mg L H σ r) (hp : PostL X.K X.mg W L H σ Q ((f r s).bndL k))
    (go : ∀ t s' v L' H', Ex L H L' H' → Rl X.K X.mg L' s' H' → Er X.K X.mg L' H' σ r → D X.K X.mg L' H' v t → PostL X.K X.mg W L' H' σ Q (k t s') → R v H') : lE X.K X.mg W f σ H R := by
  refine ⟨L, r, s, hR, hE, ?_⟩
  cases e : f r s with
  | ok t s' =>
    rw [e] at hp
    exact fun v L' H' x hR' hd => go t s' v L' H' x hR' (hE.mono x) hd (PostL.ex hp x)
  | exc x s' => rw [e] at hp; exact hp
  | bad => rw [e] at hp; exact hp
theorem lL_bnd {f : Lv} {k : List T → Sto → Out} {σ : L2.St} {H : Hp} {Q : VK} {L : List Addr} {r : Env} {s : Sto} {R : List V → Hp → Prop} (hR : Rl X.K X.mg L s H) (hE : Er X.K X.mg L H σ r) (hp : PostE X.K X.mg W L H σ Q ((f r s).bnd k))
    (go : ∀ t s' v L' H', Ex L H L' H' → Rl X.K X.mg L' s' H' → Er X.K X.mg L' H' σ r → Ds X.K X.mg L' H' v t → PostE X.K X.mg W L' H' σ Q (k t s') → R v H') : lL X.K X.mg W f σ H R := by
  refine ⟨L, r, s, hR, hE, ?_⟩
  cases e : f r s with
  | ok t s' =>
    rw [e] at hp
    exact fun v L' H' x hR' hd => go t s' v L' H' x hR' (hE.mono x) hd (PostE.ex hp x)
  | exc x s' => rw [e] at hp; exact hp
  | bad => rw [e] at hp; exact hp
theorem lL_bndL {f : Lv} {k : List T → Sto → OutL} {σ : L2.St} {H : Hp} {Q : List V → Hp → Prop} {L : List Addr} {r : Env} {s : Sto} {R : List V → Hp → Prop} (hR : Rl X.K X.mg L s H) (hE : Er X.K X.mg L H σ r) (hp : PostL X.K X.mg W L H σ Q ((f r s).bndL k))
    (go : ∀ t s' v L' H', Ex L H L' H' → Rl X.K X.mg L' s' H' → Er X.K X.mg L' H' σ r → Ds X.K X.mg L' H' v t → PostL X.K X.mg W L' H' σ Q (k t s') → R v H') : lL X.K X.mg W f σ H R := by
  refine ⟨L, r, s, hR, hE, ?_⟩
  cases e : f r s with
  | ok t s' =>
    rw [e] at hp
    exact fun v L' H' x hR' hd => go t s' v L' H' x hR' (hE.mono x) hd (PostL.ex hp x)
  | exc x s' => rw [e] at hp; exact hp
  | bad => rw [e] at hp; exact hp
theorem l_nil : FL X W [] lNil := PAw pa_nil fun σ H Q ⟨L, r, s, hR, hE, hp⟩ => hp [] L H Ex.refl hR .nil
theorem l_cons {e : Expr} (ha : FE X W e fa) (hr : FL X W es fl) (hs : starEach (e :: es) X.env = (false, eval e X.env) :: starEach es X.env := by rfl) : FL X W (e :: es) (lCons fa fl) := by
  refine PAw (pa_cons ha hr hs) fun σ H Q ⟨L, r, s, hR, hE, hp⟩ => ?_
  refine lE_bndL hR hE hp fun t1 s1 v1 L1 H1 x1 R1 E1 d1 p1 => ?_
  refine lL_bndL R1 E1 p1 fun t2 s2 v2 L2 H2 x2 R2 E2 d2 p2 => ?_
  exact p2 _ L2 H2 Ex.refl R2 (.cons (d1.mono x2) d2)
theorem r_tup {k : Nat} (h : FL X W es fl) : FE X W (.Tuple es k pos) (eTup fl) := by
  refine PEw (pe_tup h) fun σ H Q ⟨L, r, s, hR, hE, hp⟩ => ?_
  refine lL_bnd hR hE hp fun ts s1 vs L1 H1 x1 R1 E1 d1 p1 => ?_
  split at p1
  · rename_i hz
    refine ⟨by rw [d1.length]; exact hz, fun p hn => p1 (.ref p) L1 _ (Ex.laid hn) (R1.laid hn) (.tup (.inl upd_same) (d1.mono (Ex.laid hn)))⟩
  · exact p1.elim
theorem r_lst (h : FL X W es fl) : FE X W (.List es pos) (eLst fl) := by
  refine PEw (pe_lst h) fun σ H Q ⟨L, r, s, hR, hE, hp⟩ => ?_
  refine lL_bnd hR hE hp fun ts s1 vs L1 H1 x1 R1 E1 d1 p1 => ?_
  split at p1
  · rename_i hz
    refine ⟨by rw [d1.length]; exact hz, fun p hn => p1 (.ref p) _ _ (Ex.add hn) (R1.add hn ⟨vs, upd_same, d1.mono (Ex.laid hn)⟩) (R1.addD)⟩
  · exact p1.elim
/-- a built-in's call -/
theorem r_callB {id : String} {g : List T → Sto → OV} {x : Str} {p : Pos} {e : Expr} (B : Bx X N sc) (hc : CallF X (.builtin id) g) (hg : sc.names.lookup x = some .globalImplicit) (hm : X.mg x = none) (hv : bootBuiltins x = some (.builtin id)) (ha : FL X W (e :: es) fl) (hn : x ≠ "__name__" := by decide) (hdb : (x == ("__debug__" : Str)) = false := by decide)
    (he : starEach (e :: es) X.env = (false, eval e X.env) :: starEach es X.env := by rfl) (hpl : (backTo pos (starEach es X.env)).any (·.1) = false := by rfl) : FE X W (.Call (.Name x p) (e :: es) [] pos) (eB g fl) := by
  refine PEw (pe_callB hc (B.gl hg) hm hv ha hn hdb he hpl) fun σ H Q ⟨L, r, s, hR, hE, hp⟩ => ?_
  refine lL_bnd hR hE hp fun ts s1 vs L1 H1 x1 R1 E1 d1 p1 => ?_
  exact ⟨L1, s1, ts, R1, d1, PostV.of p1⟩
theorem r_callT {id : String} {g : List T → Sto → OV} {x : Str} {p : Pos} {e : Expr} (B : Bx X N sc) (hc : CallF X (.type id) g) (hg : sc.names.lookup x = some .globalImplicit) (hm : X.mg x = none) (hv : bootBuiltins x = some (.type id)) (ha : FL X W (e :: es) fl) (hn : x ≠ "__name__" := by decide) (hdb : (x == ("__debug__" : Str)) = false := by decide)
    (he : starEach (e :: es) X.env = (false, eval e X.env) :: starEach es X.env := by rfl) (hpl : (backTo pos (starEach es X.env)).any (·.1) = false := by rfl) : FE X W (.Call (.Name x p) (e :: es) [] pos) (eB g fl) := by
  refine PEw (pe_callTy hc (B.gl hg) hm hv ha hn hdb he hpl) fun σ H Q ⟨L, r, s, hR, hE, hp⟩ => ?_
  refine lL_bnd hR hE hp fun ts s1 vs L1 H1 x1 R1 E1 d1 p1 => ?_
  exact ⟨L1, s1, ts, R1, d1, PostV.of p1⟩
end
end Fx

set_option maxRecDepth 100000
set_option maxHeartbeats 2000000
/-! Fx: statements, targets, loops, comprehensions. -/
namespace Fx
open PySem L2 PyProof.Rows

def Fl.isTg : Fl → Bool
  | .nx _ _ => true | .ex _ _ _ => true | .bad => true | _ => false

section
variable {K : PySem.W.Frag} {mg : Str → Option Value} {L L' : List Addr} {H H' : Hp} {s : Sto} {p : Addr}
/-- an object that stands already gets a place -/
theorem Rl.adopt (q : Rl K mg L s H) {o : O} (np : p ∉ L) (d : OD K mg L H p o) : Rl K mg (L ++ [p]) (s.add o) H := by
  have pre : ∀ (n : Nat) (a : Addr), L[n]? = some a → (L ++ [p])[n]? = some a := fun n a h => by
    rw [List.getElem?_append_left (List.getElem?_eq_some_iff.mp h).1]; exact h
  have mo : ∀ {a o}, OD K mg L H a o → OD K mg (L ++ [p]) H a o := fun {a o} d => by
    have mD : ∀ {vs ts}, Ds K mg L H vs ts → Ds K mg (L ++ [p]) H vs ts := fun {vs ts} r => r.mono' pre (fun _ _ h => h) (fun _ _ _ h => h)
    cases o with
    | lst ts => obtain ⟨vs, e1, q⟩ := d; exact ⟨vs, e1, mD q⟩
    | dct kvs => obtain ⟨vs, e1, q1, q2⟩ := d; exact ⟨vs, e1, q1, mD q2⟩
    | ins C fs => obtain ⟨Ca, dx, fs', e1, e2, q1, q2⟩ := d; exact ⟨Ca, dx, fs', e1, e2, q1, mD q2⟩
  refine ⟨by simp [Sto.add, q.len], List.nodup_append.mpr ⟨q.nd, by simp, fun a h b hb => by obtain rfl := List.mem_singleton.mp hb; rintro rfl; exact np h⟩, by simp only [Sto.add, List.length_append]; have := q.kp; omega, fun i o' e => ?_, fun i o' e => ?_⟩
  · simp only [Sto.add] at e
    by_cases hi : i < s.os.length
    · rw [List.getElem?_append_left hi] at e
      obtain ⟨a, h1, h2⟩ := q.obj i o' e
      exact ⟨a, pre _ _ h1, mo h2⟩
    · have hi2 : i = s.os.length := by
        have := (List.getElem?_eq_some_iff.mp e).1
        simp at this; omega
      subst hi2
      simp at e
      subst e
      exact ⟨p, by rw [← q.len]; simp, mo d⟩
  · simp only [Sto.add] at e ⊢
    by_cases hi : i < s.os.length
    · rw [List.getElem?_append_left hi] at e
      exact q.ref i o' e
    · have hi2 : i = s.os.length := by
        have := (List.getElem?_eq_some_iff.mp e).1
        simp at this; omega
      subst hi2
      simp at e
      subst e
      have := d.hi_le
      rw [q.len] at this
      omega
theorem Ex.adopt (e : Ex L H L' H') (hp : H p = none) : Ex L H (L' ++ [p]) H' :=
  ⟨e.pre.trans ⟨[p], rfl⟩, e.frm, e.tup, e.frz, fun a m => by
    rcases List.mem_append.mp m with m | m
    · exact e.new a m
    · obtain rfl := List.mem_singleton.mp m
      exact .inr hp⟩
end

section
variable {X : Cx} {W : WX} {N : List Str} {sc : Scope} {pos : Pos} {a b c e tg : Expr} {fa fb fc : Ev} {ba bb : Bv} {es : List Expr} {fl : Lv} {st : Stmt} {rest sa sb : List Stmt} {ga gb : Sv} {g : Gv}
theorem lE_bndS {f : Ev} {k : T → Sto → Fl} {σ : L2.St} {H : Hp} {Z : Ends} {L : List Addr} {r : Env} {s : Sto} {R : VK} (hR : Rl X.K X.mg L s H) (hE : Er X.K X.mg L H σ r) (hp : PostS X.K X.mg W L H Z ((f r s).bndS r k))
    (go : ∀ t s' v L' H', Ex L H L' H' → Rl X.K X.mg L' s' H' → Er X.K X.mg L' H' σ r → D X.K X.mg L' H' v t → PostS X.K X.mg W L' H' Z (k t s') → R v H') : lE X.K X.mg W f σ H R := by
  refine ⟨L, r, s, hR, hE, ?_⟩
  cases e : f r s with
  | ok t s' =>
    rw [e] at hp
    exact fun v L' H' x hR' hd => go t s' v L' H' x hR' (hE.mono x) hd (PostS.ex hp x)
  | exc x s' =>
    rw [e] at hp
    exact fun c d L' H' x1 x2 x3 => hp c d σ L' H' x1 x2 (hE.mono x1) x3
  | bad => rw [e] at hp; exact hp
theorem lB_bndS {f : Bv} {k : Bool → Sto → Fl} {σ : L2.St} {H : Hp} {Z : Ends} {L : List Addr} {r : Env} {s : Sto} {R : Bool → Hp → Prop} (hR : Rl X.K X.mg L s H) (hE : Er X.K X.mg L H σ r) (hp : PostS X.K X.mg W L H Z ((f r s).bndS r k))
    (go : ∀ t s' L' H', Ex L H L' H' → Rl X.K X.mg L' s' H' → Er X.K X.mg L' H' σ r → PostS X.K X.mg W L' H' Z (k t s') → R t H') : lB X.K X.mg W f σ H R := by
  refine ⟨L, r, s, hR, hE, ?_⟩
  cases e : f r s with
  | ok t s' =>
    rw [e] at hp
    exact fun L' H' x hR' => go t s' L' H' x hR' (hE.mono x) (PostS.ex hp x)
  | exc x s' =>
    rw [e] at hp
    exact fun c d L' H' x1 x2 x3 => hp c d σ L' H' x1 x2 (hE.mono x1) x3
  | bad => rw [e] at hp; exact hp
theorem s_nil : FSs X W [] sNil := PSsw pss_nil fun Z σ H ⟨L, r, s, hR, hE, hp⟩ => hp σ L H Ex.refl hR hE
theorem s_seq (h1 : FS X W st ga) (h2 : FSs X W rest gb) : FSs X W (st :: rest) (sSeq ga gb) := by
  refine PSsw (pss_cons h1 h2) fun Z σ H ⟨L, r, s, hR, hE, hp⟩ => ⟨L, r, s, hR, hE, ?_⟩
  simp only [sSeq] at hp
  cases e : ga r s with
  | nx r1 s1 =>
    rw [e] at hp
    exact fun σ1 L1 H1 x1 R1 E1 => ⟨L1, r1, s1, R1, E1, PostS.ex hp x1⟩
  | rt t s1 => rw [e] at hp; exact hp
  | bk r1 s1 => rw [e] at hp; exact hp
  | ct r1 s1 => rw [e] at hp; exact hp
  | ex x r1 s1 => rw [e] at hp; exact hp
  | bad => rw [e] at hp; exact hp
theorem s_one (h1 : FS X W st ga) : FSs X W [st] ga := pss_one h1
theorem s_bad : FS X W st (fun _ _ => .bad) := PSw ps_never fun Z σ H ⟨L, r, s, hR, hE, hp⟩ => hp
theorem s_pass : FS X W (.Pass pos) sNil := PSw ps_pass fun Z σ H ⟨L, r, s, hR, hE, hp⟩ => hp σ L H Ex.refl hR hE
theorem s_doc {x : Str} {j : Nat} {pos' : Pos} : FS X W (.Expr (.Constant (.str x) j pos) pos') sNil := PSw ps_doc fun Z σ H ⟨L, r, s, hR, hE, hp⟩ => hp σ L H Ex.refl hR hE
theorem s_brk : FS X W (.Break pos) sBrk := PSw ps_break fun Z σ H ⟨L, r, s, hR, hE, hp⟩ => hp σ L H Ex.refl hR hE
theorem s_cnt : FS X W (.Continue pos) sCnt := PSw ps_continue fun Z σ H ⟨L, r, s, hR, hE, hp⟩ => hp σ L H Ex.refl hR hE
theorem s_ex (ha : FE X W a fa) (hs : swapsWith a none pos.line X.env = pure false := by rfl) : FS X W (.Expr a pos) (sEx fa) := by
  refine PSw (ps_expr ha hs) fun Z σ H ⟨L, r, s, hR, hE, hp⟩ => ?_
  exact lE_bndS hR hE hp fun t1 s1 v1 L1 H1 x1 R1 E1 d1 p1 => p1 σ L1 H1 Ex.refl R1 E1
theorem s_ret (ha : FE X W a fa) : FS X W (.Return (some a) pos) (sRet fa) := by
  refine PSw (ps_ret ha) fun Z σ H ⟨L, r, s, hR, hE, hp⟩ => ?_
  exact lE_bndS hR hE hp fun t1 s1 v1 L1 H1 x1 R1 E1 d1 p1 => p1 v1 L1 H1 Ex.refl R1 d1
theorem s_retN : FS X W (.Return none pos) sRetN := PSw ps_retN fun Z σ H ⟨L, r, s, hR, hE, hp⟩ => hp _ L H Ex.refl hR .non
theorem s_if (hc : FB X W c ba) (h1 : FSs X W sa ga) (h2 : FSs X W sb gb) : FS X W (.If c sa sb pos) (sIf ba ga gb) := by
  refine PSw (ps_if hc h1 h2) fun Z σ H ⟨L, r, s, hR, hE, hp⟩ => ?_
  refine lB_bndS hR hE hp fun k s1 L1 H1 x1 R1 E1 p1 => ?_
  cases k with
  | true => exact ⟨L1, r, s1, R1, E1, p1⟩
  | false => exact ⟨L1, r, s1, R1, E1, p1⟩

/-! ### targets -/
theorem wipe_set {σ : L2.St} {i : Nat} {x : Option V} : ∀ {vs : List Nat}, i ∈ vs → wipe (σ.set i x) vs = wipe σ vs
  | [], h => by simp at h
  | v :: vs, h => by
    unfold wipe
    by_cases hi : i ∈ vs
    · rw [wipe_set hi]
    · have e : i = v := by
        rcases List.mem_cons.mp h with h | h
        · exact h
        · exact absurd h hi
      subst e
      have aux : ∀ (us : List Nat), i ∉ us → (wipe (σ.set i x) us).set i none = (wipe σ us).set i none := by
        intro us
        induction us with
        | nil => intro _; simp [wipe]
        | cons u us ih =>
          intro hu
          simp only [List.mem_cons, not_or] at hu
          unfold wipe
          rw [List.set_comm _ _ (Ne.symm hu.1), ih hu.2, List.set_comm _ _ hu.1]
      exact aux vs hi
variable {ws : List Nat}
theorem g_nm {i : Nat} {x : Str} (B : Bx X N sc) (hi : N[i]? = some x) (hx : sc.names.lookup x = some .local) (hw : i ∈ ws) : FG X W ws (.Name x pos) (gNm i) := by
  refine PGw (pg_name (B.nd') (B.at hi) (.inl (B.loc hx)) (.inr (B.loc hx))) fun v σ H Q ⟨L, r, s, t, hR, hE, hd, hp⟩ => ?_
  exact hp _ L H Ex.refl hR (hE.set hd) (wipe_set hw)
/-- a name that is captured -/
theorem g_nmC {i : Nat} {x : Str} (B : Bx X N sc) (hi : N[i]? = some x) (hx : sc.names.lookup x = some .cell) (hf : X.fn x = true) (hw : i ∈ ws) : FG X W ws (.Name x pos) (gNm i) := by
  refine PGw (pg_name (B.nd') (B.at hi) (.inr (by rw [B.hs]; exact hx)) (.inl hf)) fun v σ H Q ⟨L, r, s, t, hR, hE, hd, hp⟩ => ?_
  exact hp _ L H Ex.refl hR (hE.set hd) (wipe_set hw)
theorem gs_nil : FGs X W ws [] gsNil := by
  refine PGsw pgs_nil fun v σ H Q ⟨L, r, s, ts, hR, hE, hd, hp⟩ => ?_
  cases hd with
  | nil => exact ⟨rfl, hp σ L H Ex.refl hR hE rfl⟩
  | cons h q => exact hp.elim
theorem gs_cons {gs : List T → Env → Sto → Fl} (h1 : FG X W ws e g) (h2 : FGs X W ws es gs) (hs : (assignEach (e :: es) X.env).map (·.2) = assign e X.env :: (assignEach es X.env).map (·.2) := by rfl) : FGs X W ws (e :: es) (gsCons g gs) := by
  refine PGsw (pgs_cons h1 h2 hs) fun vs σ H Q ⟨L, r, s, ts, hR, hE, hd, hp⟩ => ?_
  cases hd with
  | nil => exact hp.elim
  | cons h q =>
    rename_i vs' ts v' t'
    refine ⟨_, _, rfl, L, r, s, _, hR, hE, h, ?_⟩
    simp only [gsCons] at hp
    revert hp
    generalize g _ r s = o
    intro hp
    cases o with
    | nx r1 s1 => exact fun σ1 L1 H1 x1 R1 E1 w1 => ⟨L1, r1, s1, _, R1, E1, q.mono x1, by rw [w1]; exact PostG.ex hp x1⟩
    | ex x r1 s1 => exact hp
    | rt t s1 => exact hp
    | bk r1 s1 => exact hp
    | ct r1 s1 => exact hp
    | bad => exact hp
theorem g_tup {k n : Nat} {gs : List T → Env → Sto → Fl} (B : Bx X N sc) (h : FGs X W ws es gs) (hn : (assignEach es X.env).length = n := by rfl) (hst : (assignEach es X.env).findIdx? (·.1) = none := by rfl) : FG X W ws (.Tuple es k pos) (gTp n gs) := by
  refine PGw (pg_tup B.calm h hn hst) fun v σ H Q ⟨L, r, s, t, hR, hE, hd, hp⟩ => ?_
  cases hd with
  | tup q q2 =>
    simp only [gTp] at hp
    split at hp
    · rename_i hl
      exact ⟨_, _, rfl, q.sq, by rw [q2.length]; exact hl, L, r, s, _, hR, hE, q2, hp⟩
    · exact hp.elim
  | _ => exact hp.elim
theorem PostS.ofG {L : List Addr} {H : Hp} {Z : Ends} {o : Fl} {P : L2.St → Prop} (hp : PostS X.K X.mg W L H Z o) (ho : o.isTg = true) : PostG X.K X.mg W L H P Z.nx o := by
  cases o with
  | nx r s => exact fun σ L' H' h1 h2 h3 _ => hp σ L' H' h1 h2 h3
  | ex x r s => exact hp
  | bad => exact hp
  | _ => cases ho
/-- a target goes on, or raises -/
def GOk (g : Gv) : Prop := ∀ t r s, (g t r s).isTg = true
def GsOk (g : List T → Env → Sto → Fl) : Prop := ∀ t r s, (g t r s).isTg = true
theorem gNm_ok {i : Nat} : GOk (gNm i) := fun _ _ _ => rfl
theorem gsNil_ok : GsOk gsNil := fun t r s => by cases t <;> rfl
theorem gsCons_ok {gs : List T → Env → Sto → Fl} (h2 : GsOk gs) : GsOk (gsCons g gs) := fun t r s => by
  unfold gsCons
  cases t with
  | nil => rfl
  | cons t q =>
    dsimp only
    cases e : g t r s with
    | nx r1 s1 => exact h2 q r1 s1
    | _ => rfl
theorem gTp_ok {n : Nat} {gs : List T → Env → Sto → Fl} (h2 : GsOk gs) : GOk (gTp n gs) := fun t r s => by
  cases t with
  | tup ts =>
    show Fl.isTg (if ts.length = n then gs ts r s else .bad) = true
    split
    · exact h2 _ _ _
    · rfl
  | _ => rfl
theorem s_asg (ha : FE X W a fa) (hg : FG X W ws tg g) (ok : GOk g) (hs : swapsWithSole [tg] a pos.line X.env = pure false := by rfl) (hw : swappedStores [tg] a X.env = pure none := by rfl)
    (h1 : (assignEach [tg] X.env).map (·.2) = [assign tg X.env] := by rfl) : FS X W (.Assign [tg] a pos) (sAsg fa g) := by
  refine PSw (ps_asg ha hg hs hw h1) fun Z σ H ⟨L, r, s, hR, hE, hp⟩ => ?_
  exact lE_bndS hR hE hp fun t1 s1 v1 L1 H1 x1 R1 E1 d1 p1 => ⟨L1, r, s1, t1, R1, E1, d1, PostS.ofG p1 (ok _ _ _)⟩
theorem s_set {i : Nat} {x : Str} {pos' : Pos} (B : Bx X N sc) (hi : N[i]? = some x) (hx : sc.names.lookup x = some .local) (ha : FE X W a fa) (hs : swapsWith a (some (.Name x pos')) pos.line X.env = pure false := by rfl) : FS X W (.Assign [.Name x pos'] a pos) (sAsg fa (gNm i)) := by
  refine PSw (ps_set (B.nd') (B.at hi) (.inl (B.loc hx)) ha hs (.inr (B.loc hx))) fun Z σ H ⟨L, r, s, hR, hE, hp⟩ => ?_
  exact lE_bndS hR hE hp fun t1 s1 v1 L1 H1 x1 R1 E1 d1 p1 => p1 _ L1 H1 Ex.refl R1 (E1.set d1)
theorem s_setC {i : Nat} {x : Str} {pos' : Pos} (B : Bx X N sc) (hi : N[i]? = some x) (hx : sc.names.lookup x = some .cell) (hf : X.fn x = true) (ha : FE X W a fa) (hs : swapsWith a (some (.Name x pos')) pos.line X.env = pure false := by rfl) : FS X W (.Assign [.Name x pos'] a pos) (sAsg fa (gNm i)) := by
  refine PSw (ps_set (B.nd') (B.at hi) (.inr (by rw [B.hs]; exact hx)) ha hs (.inl hf)) fun Z σ H ⟨L, r, s, hR, hE, hp⟩ => ?_
  exact lE_bndS hR hE hp fun t1 s1 v1 L1 H1 x1 R1 E1 d1 p1 => p1 _ L1 H1 Ex.refl R1 (E1.set d1)
theorem s_par {i j : Nat} {x y : Str} {px py pt : Pos} {kt k2 : Nat} {pt2 : Pos} (B : Bx X N sc) (hi : N[i]? = some x) (hj : N[j]? = some y) (hij : i ≠ j) (hx : sc.names.lookup x = some .local) (hy : sc.names.lookup y = some .local) (ha : FL X W [a, b] fl)
    (hw : swappedStores [.Tuple [.Name x px, .Name y py] kt pt] (.Tuple [a, b] k2 pt2) X.env = pure (some [x, y])) (hs : swapsWithSole [.Tuple [.Name x px, .Name y py] kt pt] (.Tuple [a, b] k2 pt2) pos.line X.env = pure false := by rfl) :
    FS X W (.Assign [.Tuple [.Name x px, .Name y py] kt pt] (.Tuple [a, b] k2 pt2) pos) (sPar i j fl) := by
  refine PSw (ps_par B.calm (B.nd') (B.at hi) (B.at hj) hij (B.loc hx) (B.loc hy) ha hw hs) fun Z σ H ⟨L, r, s, hR, hE, hp⟩ => ⟨L, r, s, hR, hE, ?_⟩
  simp only [sPar] at hp
  cases e : fl r s with
  | ok ts s1 =>
    rw [e] at hp
    match ts, hp with
    | [t, u], hp =>
      intro vs L1 H1 x1 R1 d1
      cases d1 with
      | cons h1 q1 =>
        cases q1 with
        | cons h2 q2 =>
          cases q2
          exact ⟨_, _, rfl, hp _ L1 H1 x1 R1 (((hE.mono x1).set h1).set h2)⟩
    | [], hp => exact hp.elim
    | [_], hp => exact hp.elim
    | _ :: _ :: _ :: _, hp => exact hp.elim
  | exc x s1 => rw [e] at hp; exact fun c d L' H' y1 y2 y3 => hp c d σ L' H' y1 y2 (hE.mono y1) y3
  | bad => rw [e] at hp; exact hp
/-- name op= e -/
theorem s_aug {i : Nat} {x : Str} {pos' : Pos} {op : Operator} {f : T → T → Sto → OV} (B : Bx X N sc) (hi : N[i]? = some x) (hx : sc.names.lookup x = some .local) (ho : PIp X op (rO X.K X.mg f)) (ha : FE X W a fa) : FS X W (.AugAssign (.Name x pos') op a pos) (sAug i f fa) := by
  refine PSw (ps_aug (B.nd') (B.at hi) (.inl (B.loc hx)) ha ho (.inr (B.loc hx))) fun Z σ H ⟨L, r, s, hR, hE, hp⟩ => ?_
  simp only [sAug] at hp
  split at hp
  · rename_i t ht
    obtain ⟨v, h1, h2⟩ := hE.val _ _ ht
    refine ⟨v, h1, lE_bndS hR hE hp fun t1 s1 v1 L1 H1 x1 R1 E1 d1 p1 => ⟨L1, s1, t, t1, R1, h2.mono x1, d1, ?_⟩⟩
    match e2 : f t t1 s1 with
    | none => rw [e2] at p1; exact p1
    | some (z, s2) =>
      rw [e2] at p1
      exact fun w L2 H2 x2 R2 d2 => p1 _ L2 H2 x2 R2 ((E1.mono x2).set d2)
  · exact hp.elim

/-! ### what is walked -/
def WalkF (K : PySem.W.Frag) (mg : Str → Option Value) (L : List Addr) (H : Hp) (J : It) (ts : List T) (chk : Sto → Bool) : Prop :=
  ∀ L1 s1 H1, Ex L H L1 H1 → Rl K mg L1 s1 H1 → chk s1 = true → J.stop ts.length H1 ∧
    ∀ (i : Nat) t, ts[i]? = some t → J.go i H1 ∧ ∀ x H2, J.yld i H1 x H2 → Ex L1 H1 L1 H2 ∧ Rl K mg L1 s1 H2 ∧ D K mg L1 H2 x t
def PostI (K : PySem.W.Frag) (mg : Str → Option Value) (W : WX) (L : List Addr) (H : Hp) (σ : L2.St) (R : It → Hp → Prop) : OutI → Prop
  | .ok ts chk s => ∀ J L' H', Ex L H L' H' → Rl K mg L' s H' → WalkF K mg L' H' J ts chk → R J H'
  | .exc x s => ∀ cls d L' H', Ex L H L' H' → Rl K mg L' s H' → XD K mg L' H' cls d x → W cls d σ H'
  | .bad => False
def lI (K : PySem.W.Frag) (mg : Str → Option Value) (W : WX) (f : Iv) : TI := fun σ H R => ∃ L r s, Rl K mg L s H ∧ Er K mg L H σ r ∧ PostI K mg W L H σ R (f r s)
abbrev FI (X : Cx) (W : WX) (tg e : Expr) (f : Iv) : Prop := PI X tg e (lI X.K X.mg W f)
theorem PIw {tg : Expr} {t t' : TI} (h : PI X tg e t) (w : ∀ σ H R, t' σ H R → t σ H R) : PI X tg e t' := ⟨fun p s σ H R I q => h.run p s σ H R I (w σ H R q)⟩
theorem WalkF.mono {L L' : List Addr} {H H' : Hp} {J : It} {ts : List T} {chk : Sto → Bool} (w : WalkF X.K X.mg L H J ts chk) (x : Ex L H L' H') : WalkF X.K X.mg L' H' J ts chk := fun L1 s1 H1 x1 => w L1 s1 H1 (x.trans x1)
variable {it : Iv}
theorem s_for (hp : PassesOwn (model X.prog X.w) X.A X.env X.xe) (B : Bx X N sc) (hi : FI X W tg e it) (hg : FG X W ws tg g) (hb : FSs X W sb gb) (hs : ∀ x, foldedSetIterable e X.env x = pure x := by intro _; rfl) : FS X W (.For tg e sb [] pos) (sFor it g gb) := by
  refine PSw (ps_for hp B.calm hi hg hb hs) fun Z σ H ⟨L, r, s, hR, hE, hp⟩ => ⟨L, r, s, hR, hE, ?_⟩
  simp only [sFor] at hp
  cases e : it r s with
  | exc x s1 => rw [e] at hp; exact fun c d L' H' y1 y2 y3 => hp c d σ L' H' y1 y2 (hE.mono y1) y3
  | bad => rw [e] at hp; exact hp
  | ok ts chk s1 =>
    rw [e] at hp
    intro J L0 H0 x0 R0 wk
    refine ⟨fun i m σ' H' => ∃ L1 r1 s1, m = ts.length - i ∧ i ≤ ts.length ∧ Ex L0 H0 L1 H' ∧ Rl X.K X.mg L1 s1 H' ∧ Er X.K X.mg L1 H' σ' r1 ∧ PostS X.K X.mg W L1 H' Z (forL chk g gb (ts.drop i) r1 s1),
      ⟨ts.length, L0, r, s1, by omega, by omega, Ex.refl, R0, hE.mono x0, PostS.ex hp x0⟩, ?_⟩
    rintro i m σ' H' ⟨L1, r1, s2, rfl, hi, x1, R1, E1, p1⟩
    by_cases hlt : i < ts.length
    · have ed : ts.drop i = ts[i] :: ts.drop (i + 1) := by rw [List.drop_eq_getElem_cons hlt]
      rw [ed] at p1
      simp only [forL] at p1
      by_cases hk : chk s2 = true
      · rw [if_pos hk] at p1
        obtain ⟨_, w2⟩ := wk L1 s2 H' x1 R1 hk
        obtain ⟨w3, w4⟩ := w2 i ts[i] (by simp [hlt])
        refine .inr ⟨w3, _, fun σ4 H4 h4 => ⟨ts.length - (i + 1), by omega, h4⟩, fun x H2 y => ?_⟩
        obtain ⟨x2, R2, d2⟩ := w4 x H2 y
        have E2 := E1.mono x2
        refine ⟨L1, r1, s2, ts[i], R2, E2, d2, ?_⟩
        have p2 := PostS.ex p1 x2
        cases e3 : g ts[i] r1 s2 with
        | nx r3 s3 =>
          rw [e3] at p2
          refine fun σ3 L3 H3 x3 R3 E3 _ => ⟨L3, r3, s3, R3, E3, ?_⟩
          have p3 := PostS.ex p2 x3
          cases e4 : gb r3 s3 with
          | nx r4 s4 =>
            simp only [e4] at p3
            exact fun σ4 L4 H4 x4 R4 E4 => ⟨L4, r4, s4, rfl, by omega, ((x1.trans x2).trans x3).trans x4, R4, E4, PostS.ex p3 x4⟩
          | ct r4 s4 =>
            simp only [e4] at p3
            exact fun σ4 L4 H4 x4 R4 E4 => ⟨L4, r4, s4, rfl, by omega, ((x1.trans x2).trans x3).trans x4, R4, E4, PostS.ex p3 x4⟩
          | bk r4 s4 => simp only [e4] at p3; exact p3
          | rt t s4 => simp only [e4] at p3; exact p3
          | ex x r4 s4 => simp only [e4] at p3; exact p3
          | bad => simp only [e4] at p3; exact p3
        | ex x r3 s3 => rw [e3] at p2; exact p2
        | rt t s3 => rw [e3] at p2; exact p2
        | bk r3 s3 => rw [e3] at p2; exact p2
        | ct r3 s3 => rw [e3] at p2; exact p2
        | bad => rw [e3] at p2; exact p2
      · rw [if_neg hk] at p1; exact p1.elim
    · have ei : i = ts.length := by omega
      subst ei
      rw [List.drop_length] at p1
      simp only [forL] at p1
      by_cases hk : chk s2 = true
      · rw [if_pos hk] at p1
        obtain ⟨w1, _⟩ := wk L1 s2 H' x1 R1 hk
        exact .inl ⟨w1, p1 σ' L1 H' Ex.refl R1 E1⟩
      · rw [if_neg hk] at p1; exact p1.elim
theorem s_while (hp : PassesOwn (model X.prog X.w) X.A X.env X.xe) (hc : FB X W c ba) (hb : FSs X W sb gb) : FS X W (.While c sb [] pos) (sWhile ba gb) := by
  refine PSw (ps_while hp hc hb) fun Z σ H ⟨L, r, s, hR, hE, hp⟩ => ?_
  refine ⟨fun m σ' H' => ∃ L1 r1 s1, Rl X.K X.mg L1 s1 H' ∧ Er X.K X.mg L1 H' σ' r1 ∧ PostS X.K X.mg W L1 H' Z (whileN ba gb m r1 s1), ⟨wTurns, L, r, s, hR, hE, hp⟩, ?_⟩
  rintro m σ' H' ⟨L1, r1, s1, R1, E1, p1⟩
  cases m with
  | zero => exact p1.elim
  | succ m =>
    refine lB_bndS R1 E1 p1 fun k s2 L2 H2 x2 R2 E2 p2 => ?_
    cases k with
    | false => exact p2 σ' L2 H2 Ex.refl R2 E2
    | true =>
      simp only [if_true] at p2 ⊢
      refine ⟨_, fun σ4 H4 h4 => ⟨m, by omega, h4⟩, L2, r1, s2, R2, E2, ?_⟩
      cases e4 : gb r1 s2 with
      | nx r4 s4 =>
        simp only [e4] at p2
        exact fun σ4 L4 H4 x4 R4 E4 => ⟨L4, r4, s4, R4, E4, PostS.ex p2 x4⟩
      | ct r4 s4 =>
        simp only [e4] at p2
        exact fun σ4 L4 H4 x4 R4 E4 => ⟨L4, r4, s4, R4, E4, PostS.ex p2 x4⟩
      | bk r4 s4 => simp only [e4] at p2; exact p2
      | rt t s4 => simp only [e4] at p2; exact p2
      | ex x r4 s4 => simp only [e4] at p2; exact p2
      | bad => simp only [e4] at p2; exact p2
end
end Fx

set_option maxRecDepth 100000
set_option maxHeartbeats 2000000
/-! Fx: comprehensions; lists that only a built-in sees. -/
namespace Fx
open PySem L2 PyProof.Rows

section
variable {K : PySem.W.Frag} {mg : Str → Option Value} {L L' : List Addr} {H H' : Hp} {s : Sto} {p : Addr}
theorem Ex.none_of (e : Ex L H L' H') (q : Rl K mg L' s H') (h : H' p = none) : H p = none := by
  cases c : H p with
  | none => rfl
  | some o =>
    by_cases m : p ∈ L
    · obtain ⟨r, rfl⟩ := e.pre
      exact absurd (List.mem_append_left r m) (q.notIn h)
    · rw [e.frm p o c m] at h; cases h
/-- a list that is no place is changed -/
theorem Rl.aside (q : Rl K mg L s H) {xs : List V} {ho : HO} (np : p ∉ L) (hl : H p = some (.lst xs)) : Rl K mg L s (upd H p ho) := by
  have mD : ∀ {vs ts}, Ds K mg L H vs ts → Ds K mg L (upd H p ho) vs ts := fun {vs ts} r => r.mono' (fun _ _ h => h)
    (fun a vs h => by rw [upd_ne (fun e => by rw [e, hl] at h; cases h)]; exact h) (fun a o u h => by rw [upd_ne (fun e => by rw [e, hl] at h; cases h)]; exact h)
  refine ⟨q.len, q.nd, q.kp, fun i o e => ?_, q.ref⟩
  obtain ⟨a, h1, h2⟩ := q.obj i o e
  have ne : a ≠ p := fun e => np (e ▸ List.mem_of_getElem? h1)
  refine ⟨a, h1, ?_⟩
  cases o with
  | lst ts => obtain ⟨vs, e1, q⟩ := h2; exact ⟨vs, (upd_ne ne).trans e1, mD q⟩
  | dct kvs => obtain ⟨vs, e1, q1, q2⟩ := h2; exact ⟨vs, (upd_ne ne).trans e1, q1, mD q2⟩
  | ins C fs => obtain ⟨Ca, dx, fs', e1, e2, q1, q2⟩ := h2; exact ⟨Ca, dx, fs', (upd_ne ne).trans e1, e2, q1, mD q2⟩
theorem Ds.aside {xs vs : List V} {ts : List T} {ho : HO} (r : Ds K mg L H vs ts) (hl : H p = some (.lst xs)) : Ds K mg L (upd H p ho) vs ts :=
  r.mono' (fun _ _ h => h) (fun a vs h => by rw [upd_ne (fun e => by rw [e, hl] at h; cases h)]; exact h) (fun a o u h => by rw [upd_ne (fun e => by rw [e, hl] at h; cases h)]; exact h)
theorem Ex.aside {ho : HO} (e : Ex L H L' H') (h0 : H p = none) : Ex L H L' (upd H' p ho) :=
  ⟨e.pre, fun a o h n => by rw [upd_ne (ne_of_none h h0)]; exact e.frm a o h n, fun a vs h => by rw [upd_ne (ne_of_none h h0)]; exact e.tup a vs h, fun a o u h => by rw [upd_ne (ne_of_none h h0)]; exact e.frz a o u h, e.new⟩
end

theorem wipe_wipe {σ : L2.St} {vs : List Nat} : wipe (wipe σ vs) vs = wipe σ vs := by
  have aux : ∀ us : List Nat, (∀ u ∈ us, u ∈ vs) → wipe (wipe σ us) vs = wipe σ vs := by
    intro us
    induction us with
    | nil => intro _; rfl
    | cons u us ih =>
      intro hu
      show wipe ((wipe σ us).set u none) vs = _
      rw [wipe_set (hu u List.mem_cons_self), ih fun x hx => hu x (List.mem_cons_of_mem _ hx)]
  exact aux vs fun _ h => h
/-- a new list at D, of the items -/
def PostC (K : PySem.W.Frag) (mg : Str → Option Value) (W : WX) (L : List Addr) (H : Hp) (σ : L2.St) (R : VK) : OutL → Prop
  | .ok ts s => ∀ p L' H' vs, Ex L H L' H' → Rl K mg L' s H' → H' p = some (.lst vs) → p ∉ L' → H p = none → vs.length ≤ sizeLine → Ds K mg L' H' vs ts → R (.ref p) H'
  | .exc x s => ∀ cls d L' H', Ex L H L' H' → Rl K mg L' s H' → XD K mg L' H' cls d x → W cls d σ H'
  | .bad => False
/-- an expression that makes a list -/
def FC (X : Cx) (W : WX) (e : Expr) (l : Lv) : Prop := ∃ t, PE X e t ∧ ∀ σ H R L r s, Rl X.K X.mg L s H → Er X.K X.mg L H σ r → PostC X.K X.mg W L H σ R (l r s) → t σ H R
theorem PostC.ex {K : PySem.W.Frag} {mg : Str → Option Value} {W : WX} {L L' : List Addr} {H H' : Hp} {σ : L2.St} {R : VK} {o : OutL} {s : Sto} (p : PostC K mg W L H σ R o) (e : Ex L H L' H') (q : Rl K mg L' s H') : PostC K mg W L' H' σ R o := by
  cases o with
  | ok ts s => exact fun a L2 H2 vs e2 h1 h2 h3 h4 => p a L2 H2 vs (e.trans e2) h1 h2 h3 (e.none_of q h4)
  | exc x s => exact fun c d L2 H2 e2 => p c d L2 H2 (e.trans e2)
  | bad => exact p
/-- nothing is wanted of exceptions: none leaves -/
abbrev W0 : WX := fun _ _ _ _ => False
section
variable {X : Cx} {W : WX} {N : List Str} {sc : Scope} {pos : Pos} {e tg iter elt : Expr} {fa : Ev} {ba : Bv} {es ifs : List Expr} {fl : Lv} {g : Gv} {it : Iv} {scope : Scope} {own : List (Str × Nat)}
theorem ts_nil : PTs X [] (lB X.K X.mg W bYes) := ⟨fun p s σ H Q I ⟨L, r, s', hR, hE, hp⟩ => (pts_nil (X := X)).run p s σ H Q I (hp L H Ex.refl hR)⟩
theorem ts_one {c : Expr} (h : FB X W c ba) : PTs X [c] (lB X.K X.mg W ba) := pts_one h
/-- the items made, one after the other -/
theorem lc_of {it : Iv} {g : Gv} {ba : Bv} {fa : Ev} {vs : List Nat} {σ : L2.St} {H : Hp} {R : VK} {L : List Addr} {r : Env} {s : Sto} (hR : Rl X.K X.mg L s H) (hE : Er X.K X.mg L H σ r) (hp : PostC X.K X.mg W L H σ R (lComp it g ba fa vs r s)) :
    tLc (lI X.K X.mg W it) (lG X.K X.mg W0 vs g) (lB X.K X.mg W0 ba) (lE X.K X.mg W0 fa) vs σ H R := by
  refine ⟨L, r, s, hR, hE, ?_⟩
  simp only [lComp] at hp
  cases e : it r s with
  | exc x s1 => rw [e] at hp; exact fun c d L' H' y1 y2 y3 => hp c d L' H' y1 y2 y3
  | bad => rw [e] at hp; exact hp
  | ok ts chk s1 =>
    rw [e] at hp
    intro J L0 H0 x0 R0 wk D hD
    have hDH := x0.none_of R0 hD
    refine ⟨fun i m H' => ∃ L1 s1 acc accV, m = ts.length - i ∧ i ≤ ts.length ∧ Ex L0 H0 L1 H' ∧ Rl X.K X.mg L1 s1 H' ∧ H' D = some (.lst accV) ∧ D ∉ L1 ∧ Ds X.K X.mg L1 H' accV acc ∧ accV.length ≤ sizeLine ∧
        PostC X.K X.mg W L H σ R (compL chk g ba fa (wip r vs) (ts.drop i) acc s1),
      ⟨ts.length, L0, s1, [], [], by omega, by omega, Ex.aside Ex.refl hD, R0.laid hD, upd_same, R0.notIn hD, .nil, Nat.zero_le _, hp⟩, ?_⟩
    rintro i m H' ⟨L1, s2, acc, accV, rfl, hi, x1, R1, hd1, hn1, da1, hz1, p1⟩
    by_cases hlt : i < ts.length
    · have ed : ts.drop i = ts[i] :: ts.drop (i + 1) := by rw [List.drop_eq_getElem_cons hlt]
      rw [ed] at p1
      simp only [compL] at p1
      by_cases hk : chk s2 = true
      · rw [if_pos hk] at p1
        obtain ⟨_, w2⟩ := wk L1 s2 H' x1 R1 hk
        obtain ⟨w3, w4⟩ := w2 i ts[i] (by simp [hlt])
        refine .inr ⟨w3, _, fun H4 h4 => ⟨ts.length - (i + 1), by omega, h4⟩, fun x H2 y => ?_⟩
        obtain ⟨x2, R2, d2⟩ := w4 x H2 y
        have y2 := x1.trans x2
        have E2 : Er X.K X.mg L1 H2 (wipe σ vs) (wip r vs) := ((hE.mono x0).mono y2).wip _
        refine ⟨L1, _, s2, ts[i], R2, E2, d2, ?_⟩
        cases e3 : g ts[i] (wip r vs) s2 with
        | nx r3 s3 =>
          rw [e3] at p1
          refine fun σ3 L3 H3 x3 R3 E3 w3' => ⟨w3'.trans wipe_wipe, L3, r3, s3, R3, E3, ?_⟩
          cases e4 : ba r3 s3 with
          | ok k s4 =>
            simp only [e4] at p1
            intro L4 H4 x4 R4
            have y4 := (y2.trans x3).trans x4
            have z4 := (x2.trans x3).trans x4
            have hd4 : H4 D = some (.lst accV) := z4.frm D _ hd1 hn1
            have hn4 : D ∉ L4 := fun q => by
              rcases z4.new D q with q | q
              · exact hn1 q
              · rw [hd1] at q; cases q
            have da4 := da1.mono z4
            cases k with
            | false =>
              simp only [Bool.false_eq_true, if_false] at p1 ⊢
              exact ⟨L4, s4, acc, accV, (by first | rfl | trivial), by omega, y4, R4, hd4, hn4, da4, hz1, p1⟩
            | true =>
              simp only [if_true] at p1 ⊢
              refine ⟨L4, r3, s4, R4, E3.mono x4, ?_⟩
              cases e5 : fa r3 s4 with
              | ok t s5 =>
                simp only [e5] at p1
                split at p1
                · rename_i hz
                  intro v L5 H5 x5 R5 d5
                  have hd5 : H5 D = some (.lst accV) := x5.frm D _ hd4 hn4
                  have hn5 : D ∉ L5 := fun q => by
                    rcases x5.new D q with q | q
                    · exact hn4 q
                    · rw [hd4] at q; cases q
                  have da5 := da4.mono x5
                  have hlen : accV.length < sizeLine := by rw [da5.length]; exact hz
                  refine ⟨accV, hd5, hlen, L5, s5, acc ++ [t], accV ++ [v], (by first | rfl | trivial), by omega, Ex.aside (y4.trans x5) hD, R5.aside hn5 hd5, upd_same, hn5, (da5.app (.cons d5 .nil)).aside hd5, by rw [List.length_append]; exact hlen, p1⟩
                · exact p1.elim
              | exc x s5 => simp only [e5] at p1; exact p1.elim
              | bad => simp only [e5] at p1; exact p1.elim
          | exc x s4 => simp only [e4] at p1; exact p1.elim
          | bad => simp only [e4] at p1; exact p1.elim
        | ex x r3 s3 => rw [e3] at p1; exact p1.elim
        | rt t s3 => rw [e3] at p1; exact p1.elim
        | bk r3 s3 => rw [e3] at p1; exact p1.elim
        | ct r3 s3 => rw [e3] at p1; exact p1.elim
        | bad => rw [e3] at p1; exact p1.elim
      · rw [if_neg hk] at p1; exact p1.elim
    · have ei : i = ts.length := by omega
      subst ei
      rw [List.drop_length] at p1
      simp only [compL] at p1
      by_cases hk : chk s2 = true
      · rw [if_pos hk] at p1
        obtain ⟨w1, _⟩ := wk L1 s2 H' x1 R1 hk
        exact .inl ⟨w1, p1 D L1 H' accV (x0.trans x1) R1 hd1 hn1 hDH hz1 da1⟩
      · rw [if_neg hk] at p1; exact p1.elim
theorem c_comp (B : Bx X N sc) (hi : FI X W tg iter it) (ok : BlkOk N sc scope own)
    (hg : ∀ (s : Shared) (H : Hp) (C : Addr) (cl : List (Str × Addr)) (fp : List Addr), FG (X.blk s H scope (compEnvC scope cl C X.env) fp) W0 (own.map (·.2)) tg g)
    (ht : ∀ (s : Shared) (H : Hp) (C : Addr) (cl : List (Str × Addr)) (fp : List Addr), PTs (X.blk s H scope (compEnvC scope cl C X.env) fp) ifs (lB X.K X.mg W0 ba))
    (he : ∀ (s : Shared) (H : Hp) (C : Addr) (cl : List (Str × Addr)) (fp : List Addr), FE (X.blk s H scope (compEnvC scope cl C X.env) fp) W0 elt fa)
    (hs : ∀ x, foldedSetIterable iter X.env x = pure x := by intro _; rfl) :
    FC X W (.ListComp elt [⟨tg, iter, ifs, 0⟩] scope pos) (lComp it g ba fa (own.map (·.2))) :=
  ⟨_, pe_lc (g := lG X.K X.mg W0 (own.map (·.2)) g) (te := lE X.K X.mg W0 fa) B.calm B.nd' hi (by rw [B.hN, B.hs]; exact ok) hg ht he hs, fun σ H R L r s hR hE hp => lc_of hR hE hp⟩
/-- a scope alone -/
def envS (sc : Scope) : PySem.Env := { scope := sc, locals := 0, globals := 0, cells := [], func := none, code := .none }
theorem swS {ts : List Expr} {v : Expr} {env env' : PySem.Env} (h : env.scope = env'.scope) : swappedStores ts v env = swappedStores ts v env' := by
  unfold swappedStores Env.blockKind Env.kindOf
  rw [h]
theorem swW {t : Option Expr} {v : Expr} {l : Nat} {env env' : PySem.Env} (h : env.scope = env'.scope) : swapsWith v t l env = swapsWith v t l env' := by
  unfold swapsWith Env.blockKind Env.kindOf
  rw [h]
theorem Bx.swS {ts : List Expr} {v : Expr} {o : Sem (Option (List Str))} (B : Bx X N sc) (h : swappedStores ts v (envS sc) = o) : swappedStores ts v X.env = o := (Fx.swS B.hs).trans h
theorem Bx.swW {t : Option Expr} {v : Expr} {l : Nat} {o : Sem Bool} (B : Bx X N sc) (h : swapsWith v t l (envS sc) = o) : swapsWith v t l X.env = o := (Fx.swW B.hs).trans h
/-- name = [..] on one line, the name a local -/
theorem s_setLc {i : Nat} {y : Str} {py spos : Pos} (B : Bx X N sc) (hy : N[i]? = some y) (hyl : sc.names.lookup y = some .local) (hi : FI X W tg iter it) (ok : BlkOk N sc scope own)
    (hsw : swapsWith (.ListComp elt [⟨tg, iter, ifs, 0⟩] scope pos) (some (.Name y py)) spos.line (envS sc) = pure true)
    (hg : ∀ (s : Shared) (H : Hp) (C : Addr) (cl : List (Str × Addr)) (fp : List Addr), FG (X.blk s H scope (compEnvC scope cl C X.env) fp) W0 (own.map (·.2)) tg g)
    (ht : ∀ (s : Shared) (H : Hp) (C : Addr) (cl : List (Str × Addr)) (fp : List Addr), PTs (X.blk s H scope (compEnvC scope cl C X.env) fp) ifs (lB X.K X.mg W0 ba))
    (he : ∀ (s : Shared) (H : Hp) (C : Addr) (cl : List (Str × Addr)) (fp : List Addr), FE (X.blk s H scope (compEnvC scope cl C X.env) fp) W0 elt fa)
    (hs : ∀ x, foldedSetIterable iter X.env x = pure x := by intro _; rfl) :
    FS X W (.Assign [.Name y py] (.ListComp elt [⟨tg, iter, ifs, 0⟩] scope pos) spos) (sAsg (eComp (lComp it g ba fa (own.map (·.2)))) (gNm i)) := by
  refine PSw (ps_setLc (g := lG X.K X.mg W0 (own.map (·.2)) g) (te := lE X.K X.mg W0 fa) B.calm B.nd' (B.at hy) (B.loc hyl) (B.swW hsw) hi (by rw [B.hN, B.hs]; exact ok) hg ht he hs) fun Z σ H ⟨L, r, s, hR, hE, hp⟩ => ?_
  refine lc_of hR hE ?_
  simp only [sAsg, eComp] at hp
  cases e : lComp it g ba fa (own.map (·.2)) r s with
  | ok ts s1 =>
    rw [e] at hp
    exact fun p L' H' vs x1 R1 hl np hn hz d1 => hp _ (L' ++ [p]) H' (x1.adopt hn) (R1.adopt np ⟨vs, hl, d1⟩) ((hE.mono (x1.adopt hn)).set R1.addD)
  | exc x s1 =>
    rw [e] at hp
    exact fun c d L' H' y1 y2 y3 => hp c d σ L' H' y1 y2 (hE.mono y1) y3
  | bad => rw [e] at hp; exact hp
/-- a list display -/
def lChk (l : Lv) : Lv := fun r s => (l r s).bndL fun ts s => if ts.length ≤ sizeLine then .ok ts s else .bad
theorem lL_bndC {f : Lv} {k : List T → Sto → OutL} {σ : L2.St} {H : Hp} {Q : VK} {L : List Addr} {r : Env} {s : Sto} {R : List V → Hp → Prop} (hR : Rl X.K X.mg L s H) (hE : Er X.K X.mg L H σ r) (hp : PostC X.K X.mg W L H σ Q ((f r s).bndL k))
    (go : ∀ t s' v L' H', Ex L H L' H' → Rl X.K X.mg L' s' H' → Er X.K X.mg L' H' σ r → Ds X.K X.mg L' H' v t → PostC X.K X.mg W L' H' σ Q (k t s') → R v H') : lL X.K X.mg W f σ H R := by
  refine ⟨L, r, s, hR, hE, ?_⟩
  cases e : f r s with
  | ok t s' =>
    rw [e] at hp
    exact fun v L' H' x hR' hd => go t s' v L' H' x hR' (hE.mono x) hd (PostC.ex hp x hR')
  | exc x s' => rw [e] at hp; exact hp
  | bad => rw [e] at hp; exact hp
theorem c_lst (h : FL X W es fl) : FC X W (.List es pos) (lChk fl) := by
  refine ⟨_, pe_lst h, fun σ H R L r s hR hE hp => ?_⟩
  refine lL_bndC hR hE hp fun ts s1 vs L1 H1 x1 R1 E1 d1 p1 => ?_
  split at p1
  · rename_i hz
    refine ⟨by rw [d1.length]; exact hz, fun p hn => p1 p L1 _ vs (Ex.laid hn) (R1.laid hn) upd_same (R1.notIn hn) hn (by rw [d1.length]; exact hz) (d1.mono (Ex.laid hn))⟩
  · exact p1.elim
/-- a list as an object -/
theorem r_comp (h : FC X W e fl) : FE X W e (eComp fl) := by
  obtain ⟨t, h1, h2⟩ := h
  refine PEw h1 fun σ H Q ⟨L, r, s, hR, hE, hp⟩ => h2 σ H Q L r s hR hE ?_
  simp only [eComp] at hp
  cases c : fl r s with
  | ok ts s1 =>
    rw [c] at hp
    exact fun p L' H' vs x1 R1 hl np hn hz d1 => hp (.ref p) (L' ++ [p]) H' (x1.adopt hn) (R1.adopt np ⟨vs, hl, d1⟩) R1.addD
  | exc x s1 => rw [c] at hp; exact hp
  | bad => rw [c] at hp; exact hp
/-- a built-in over such a list -/
def CallTmp (X : Cx) (f : Value) (h : List T → Sto → OV) : Prop := ∃ r, CallR X f r ∧ ∀ p L s H vs ts Q, Rl X.K X.mg L s H → H p = some (.lst vs) → p ∉ L → vs.length ≤ sizeLine → Ds X.K X.mg L H vs ts → PostV X.K X.mg L H Q (h ts s) → r [.ref p] H Q
theorem tmp_post {h : List T → Sto → OV} {σ : L2.St} {H : Hp} {Q : VK} {L : List Addr} {r : Env} {s : Sto} {R : VK} (hR : Rl X.K X.mg L s H) (hp : PostE X.K X.mg W L H σ Q ((fl r s).bnd fun ts s => vOut (h ts s)))
    (go : ∀ p L' s' H' vs ts, Rl X.K X.mg L' s' H' → H' p = some (.lst vs) → p ∉ L' → vs.length ≤ sizeLine → Ds X.K X.mg L' H' vs ts → PostV X.K X.mg L' H' Q (h ts s') → R (.ref p) H') : PostC X.K X.mg W L H σ R (fl r s) := by
  cases c : fl r s with
  | ok ts s1 =>
    rw [c] at hp
    exact fun p L' H' vs x1 R1 hl np hn hz d1 => go p L' s1 H' vs ts R1 hl np hz d1 (PostV.of (PostE.ex hp x1))
  | exc x s1 => rw [c] at hp; exact hp
  | bad => rw [c] at hp; exact hp
theorem r_tmpB {id : String} {h : List T → Sto → OV} {x : Str} {p : Pos} (B : Bx X N sc) (hc : CallTmp X (.builtin id) h) (hg : sc.names.lookup x = some .globalImplicit) (hm : X.mg x = none) (hv : bootBuiltins x = some (.builtin id)) (ha : FC X W e fl) (hn : x ≠ "__name__" := by decide) (hdb : (x == ("__debug__" : Str)) = false := by decide)
    (he : starEach (e :: []) X.env = (false, eval e X.env) :: starEach [] X.env := by rfl) (hpl : (backTo pos (starEach [] X.env)).any (·.1) = false := by rfl) : FE X W (.Call (.Name x p) [e] [] pos) (eTmp h fl) := by
  obtain ⟨rr, h1, h2⟩ := hc
  obtain ⟨t, h3, h4⟩ := ha
  refine PEw (pe_callB h1 (B.gl hg) hm hv (pa_cons h3 pa_nil he) hn hdb he hpl) fun σ H Q ⟨L, r, s, hR, hE, hp⟩ => ?_
  exact h4 σ H _ L r s hR hE (tmp_post hR hp fun p L' s' H' vs ts R1 hl np hz d1 p1 => h2 p L' s' H' vs ts Q R1 hl np hz d1 p1)
theorem r_tmpT {id : String} {h : List T → Sto → OV} {x : Str} {p : Pos} (B : Bx X N sc) (hc : CallTmp X (.type id) h) (hg : sc.names.lookup x = some .globalImplicit) (hm : X.mg x = none) (hv : bootBuiltins x = some (.type id)) (ha : FC X W e fl) (hn : x ≠ "__name__" := by decide) (hdb : (x == ("__debug__" : Str)) = false := by decide)
    (he : starEach (e :: []) X.env = (false, eval e X.env) :: starEach [] X.env := by rfl) (hpl : (backTo pos (starEach [] X.env)).any (·.1) = false := by rfl) : FE X W (.Call (.Name x p) [e] [] pos) (eTmp h fl) := by
  obtain ⟨rr, h1, h2⟩ := hc
  obtain ⟨t, h3, h4⟩ := ha
  refine PEw (pe_callTy h1 (B.gl hg) hm hv (pa_cons h3 pa_nil he) hn hdb he hpl) fun σ H Q ⟨L, r, s, hR, hE, hp⟩ => ?_
  exact h4 σ H _ L r s hR hE (tmp_post hR hp fun p L' s' H' vs ts R1 hl np hz d1 p1 => h2 p L' s' H' vs ts Q R1 hl np hz d1 p1)
end
end Fx

set_option maxRecDepth 100000
set_option maxHeartbeats 2000000
/-! Fx: defs and their calls. -/
namespace Fx
open PySem L2 PyProof.Rows

/-- room for k calls one in another, and no repr at work -/
structure Rm (k : Nat) (A : Around) : Prop where
  room : Room k A
  quiet : A.guards = some []
theorem Rm.mono {j k : Nat} {A : Around} (r : Rm k A) (h : j ≤ k) : Rm j A := ⟨r.room.mono h, r.quiet⟩
theorem Rm.deeper {k : Nat} {A : Around} (r : Rm (k + 1) A) (env : PySem.Env) : Rm k (A.deeper env) := ⟨r.room.deeper env, r.quiet⟩

section
variable (K : PySem.W.Frag) (mg : Str → Option Value)
def PostF (L : List Addr) (H : Hp) (Q : VK) (E : XK) : Out → Prop
  | .ok t s => ∀ v L' H', Ex L H L' H' → Rl K mg L' s H' → D K mg L' H' v t → Q v H'
  | .exc x s => ∀ cls d L' H', Ex L H L' H' → Rl K mg L' s H' → XD K mg L' H' cls d x → E cls d H'
  | .bad => False
/-- the promise: what the functional reading says -/
def spF (C : CallT) (f : String) : Sp := fun vs H Q E => ∃ L ts s, Rl K mg L s H ∧ Ds K mg L H vs ts ∧ PostF K mg L H Q E (C f ts s)
end
structure FnF (P : Program) (w : World) (K : PySem.W.Frag) (mg : Str → Option Value) (base : Heap) (k : Nat) (f : Addr) (fd : FuncData) (ps : List Str) (sp : Sp) : Prop where
  lenF : ∀ vs H Q E, sp vs H Q E → vs.length = ps.length
  runF : ∀ (A : Around) (below : List PySem.Env) (s : Shared) (H : Hp) (args : Args) (us : List Value) (vs : List V) (Q : VK) (E : XK),
    Rm k A → Env0 P w K mg base A below s H → BindsTo s fd args (ps.zip us) → Vals vs us → sp vs H Q E → codeAny (model P w) A (.call (.ref f) args) (CR (L2.CX P w) below P w H s Q E) s
theorem FnF.mono {P : Program} {w : World} {K : PySem.W.Frag} {mg : Str → Option Value} {base : Heap} {j k : Nat} {f : Addr} {fd : FuncData} {ps : List Str} {sp : Sp} (F : FnF P w K mg base j f fd ps sp) (h : j ≤ k) : FnF P w K mg base k f fd ps sp :=
  ⟨F.lenF, fun A b s H args us vs Q E hr => F.runF A b s H args us vs Q E (hr.mono h)⟩

/-! ### a call -/
section
variable {X : Cx} {W : WX} {k : Nat} {f : Addr} {fd : FuncData} {ps : List Str} {sp : Sp} {dvs : List V} {ds : List Value}
theorem run_fnF {pins : List (Addr × Obj)} {σ : L2.St} {H : Hp} {s : Shared} {Q : VK} {us : List Value} {vs : List V} (F : FnF X.prog X.w X.K X.mg X.base k f fd ps sp) (hr : Rm k X.A) (hb : Binds X.K fd ps ds) (hd : Vals dvs ds) (tk : Takes X W)
    (I : Inv X pins σ H s) (r : Vals vs us) (h : sp (vs ++ dvs) H Q (WE W σ)) : wpAny (model X.prog X.w) X.A (call (.ref f) us) (EP X pins σ Q) X.xe s := by
  have both := r.append hd
  have hl : (us ++ ds).length = ps.length := by rw [← both.length]; exact F.lenF _ _ _ _ h
  have c := F.runF X.A X.stack s H ⟨us, []⟩ (us ++ ds) (vs ++ dvs) Q (WE W σ) hr I.env0 (hb s us I.kIn hl) both h
  refine wpAny_call (codeAny_mono c fun r s' hq => ?_)
  match r, hq with
  | .error e, hq => exact passAt tk σ pins H s e s' I hq
  | .ok (.ret u), hq => exact I.after hq
  | .ok .next, hq => exact False.elim hq
  | .ok .brk, hq => exact False.elim hq
  | .ok .cont, hq => exact False.elim hq
end

/-- the def f at the address a, its last parameters by the defaults dts -/
def Cal (P : Program) (w : World) (K : PySem.W.Frag) (mg : Str → Option Value) (base : Heap) (k : Nat) (C : CallT) (f : String) (a : Addr) (dts : List T) : Prop :=
  ∃ fd ps dvs ds, FnF P w K mg base k a fd ps (spF K mg C f) ∧ Binds K fd ps ds ∧ Vals dvs ds ∧ (∀ L H, Ds K mg L H dvs dts) ∧ PySem.W.keepIn K (.ref a) = true
/-- arguments, then defaults -/
def lDef (l : Lv) (dts : List T) : Lv := fun r s => (l r s).bndL fun ts s => .ok (ts ++ dts) s
section
variable {X : Cx} {W : WX} {N : List Str} {sc : Scope} {pos : Pos} {e : Expr} {es : List Expr} {fl : Lv} {k : Nat} {C : CallT} {f : String} {n : Nat} {a : Addr} {dts : List T}
theorem PostE.gc {o : Out} {L : List Addr} {H : Hp} {σ : L2.St} {Q : VK} {s : Sto} (hR : Rl X.K X.mg L s H) (hp : PostE X.K X.mg W L H σ Q (gcR s.len s.kp o)) : PostE X.K X.mg W L H σ Q o := by
  have hlen := hR.len
  cases o with
  | ok t s' =>
    simp only [gcR] at hp
    split at hp
    · rename_i hk
      intro v L' H' x R1 d
      have hm : s'.kp ≤ max s.len t.hi := by rw [hk]; exact Nat.le_trans hR.kp (Nat.le_max_left _ _)
      exact hp v _ H' (x.cut (by rw [hlen]; exact Nat.le_max_left _ _)) (R1.cut hm) (d.cut _ (Nat.le_max_right _ _))
    · exact hp
  | exc x s' =>
    simp only [gcR] at hp
    split at hp
    · rename_i hk
      intro cls d L' H' e1 R1 q
      have hm : s'.kp ≤ max s.len x.hi := by rw [hk]; exact Nat.le_trans hR.kp (Nat.le_max_left _ _)
      exact hp cls d _ H' (e1.cut (by rw [hlen]; exact Nat.le_max_left _ _)) (R1.cut hm) (q.cut (Nat.le_max_right _ _))
    · exact hp
  | bad => exact hp
theorem PostF.of {o : Out} {L : List Addr} {H : Hp} {σ : L2.St} {Q : VK} (hp : PostE X.K X.mg W L H σ Q o) : PostF X.K X.mg L H Q (WE W σ) o := by
  cases o with
  | ok t s => exact hp
  | exc x s => exact hp
  | bad => exact hp
/-- f(e, ..) -/
theorem r_call {p : Pos} (B : Bx X N sc) (c : Cal X.prog X.w X.K X.mg X.base k C f a dts) (hr : Rm k X.A) (tk : Takes X W) (hg : sc.names.lookup (Str.ofString f) = some .globalImplicit) (hm : X.mg (Str.ofString f) = some (.ref a)) (ha : FL X W (e :: es) fl)
    (hdb : (Str.ofString f == ("__debug__" : Str)) = false := by decide)
    (he : starEach (e :: es) X.env = (false, eval e X.env) :: starEach es X.env := by rfl) (hpl : (backTo pos (starEach es X.env)).any (·.1) = false := by rfl) : FE X W (.Call (.Name (Str.ofString f) p) (e :: es) [] pos) (eCall C f (lDef fl dts)) := by
  obtain ⟨fd, ps, dvs, ds, F, b, vd, dd, kp⟩ := c
  refine ⟨fun pins s σ H Q I ⟨L, r, st, hR, hE, hp⟩ => ?_⟩
  have go : lL X.K X.mg W fl σ H fun vs H1 => spF X.K X.mg C f (vs ++ dvs) H1 Q (WE W σ) := by
    refine ⟨L, r, st, hR, hE, ?_⟩
    simp only [eCall, lDef] at hp
    cases e1 : fl r st with
    | ok ts s1 =>
      rw [e1] at hp
      exact fun vs L1 H1 x1 R1 d1 => ⟨L1, ts ++ dts, s1, R1, d1.app (dd L1 H1), PostF.of (PostE.ex hp x1)⟩
    | exc x s1 => rw [e1] at hp; exact hp
    | bad => rw [e1] at hp; exact hp
  refine wpAny_Call_Name_kw (ld_glob I (B.gl hg) hm ?_ hdb)
  refine PySem.W.callWith_K (h₀ := X.base) I.ok.mod.kin kp (thn (ha.run pos pins s σ H _ I go) fun us s1 ⟨vs, H1, I1, rv, q⟩ => ⟨I1.kIn, run_fnF F hr b vd tk I1 rv q⟩) he hpl
/-- f() -/
theorem r_call0 {p : Pos} (B : Bx X N sc) (c : Cal X.prog X.w X.K X.mg X.base k C f a dts) (hr : Rm k X.A) (tk : Takes X W) (hg : sc.names.lookup (Str.ofString f) = some .globalImplicit) (hm : X.mg (Str.ofString f) = some (.ref a))
    (hdb : (Str.ofString f == ("__debug__" : Str)) = false := by decide) : FE X W (.Call (.Name (Str.ofString f) p) [] [] pos) (eCall C f (lDef lNil dts)) := by
  obtain ⟨fd, ps, dvs, ds, F, b, vd, dd, kp⟩ := c
  refine ⟨fun pins s σ H Q I ⟨L, r, st, hR, hE, hp⟩ => ?_⟩
  refine wpAny_Call_Name_kw (ld_glob I (B.gl hg) hm ?_ hdb)
  exact PySem.W.callWith_K0 I.kIn kp (run_fnF (us := []) (vs := []) F hr b vd tk I .nil ⟨L, dts, st, hR, dd L H, PostF.of hp⟩)
/-- what a call's arguments made goes with it -/
theorem r_gc {f : Ev} (h : FE X W e f) : FE X W e (fun r s => gcR s.len s.kp (f r s)) :=
  PEw h fun σ H Q ⟨L, r, s, hR, hE, hp⟩ => ⟨L, r, s, hR, hE, PostE.gc hR hp⟩
end

/-! ### a def by its body -/
/-- where a body stands -/
structure Ctx (X : Cx) (W : WX) (N : List Str) (sc : Scope) (k : Nat) : Prop where
  B : Bx X N sc
  tk : Takes X W
  rm : Rm k X.A
  po : PassesOwn (model X.prog X.w) X.A X.env X.xe
  fn : ∀ x, X.fn x = true
  st : X.stack = X.env :: X.outer
  fr : X.env.frame = some X.env.locals
/-- what a body may lean on: the callees and so on -/
abbrev Facts := Program → World → PySem.W.Frag → (Str → Option Value) → Heap → Nat → CallT → Prop
theorem start_er {K : PySem.W.Frag} {mg : Str → Option Value} {L : List Addr} {H : Hp} {N : List Str} {vs : List V} {ts : List T} (d : Ds K mg L H vs ts) : Er K mg L H (start N vs) (ts.map some ++ List.replicate (N.length - ts.length) none) := by
  have hl := d.length
  refine ⟨by simp [L2.start, hl], fun i t h => ?_⟩
  by_cases hi : i < ts.length
  · rw [List.getElem?_append_left (by simpa using hi), List.getElem?_map] at h
    have e : ts[i]? = some t := by
      cases q : ts[i]? with
      | none => rw [q] at h; cases h
      | some u => rw [q] at h; cases h; rfl
    obtain ⟨v, h1, h2⟩ := d.get e
    refine ⟨v, ?_, h2⟩
    unfold L2.start
    rw [List.getElem?_append_left (by simpa [hl] using hi), List.getElem?_map, h1]; rfl
  · rw [List.getElem?_append_right (by simpa using hi), List.getElem?_replicate] at h
    split at h <;> cases h
theorem PostF.gc {K : PySem.W.Frag} {mg : Str → Option Value} {o : Out} {L : List Addr} {H : Hp} {Q : VK} {E : XK} {s : Sto} (hR : Rl K mg L s H) (hp : PostF K mg L H Q E (gcR s.len s.kp o)) : PostF K mg L H Q E o := by
  have hlen := hR.len
  cases o with
  | ok t s' =>
    simp only [gcR] at hp
    split at hp
    · rename_i hk
      intro v L' H' x R1 d
      have hm : s'.kp ≤ max s.len t.hi := by rw [hk]; exact Nat.le_trans hR.kp (Nat.le_max_left _ _)
      exact hp v _ H' (x.cut (by rw [hlen]; exact Nat.le_max_left _ _)) (R1.cut hm) (d.cut _ (Nat.le_max_right _ _))
    · exact hp
  | exc x s' =>
    simp only [gcR] at hp
    split at hp
    · rename_i hk
      intro cls d L' H' e1 R1 q
      have hm : s'.kp ≤ max s.len x.hi := by rw [hk]; exact Nat.le_trans hR.kp (Nat.le_max_left _ _)
      exact hp cls d _ H' (e1.cut (by rw [hlen]; exact Nat.le_max_left _ _)) (R1.cut hm) (q.cut (Nat.le_max_right _ _))
    · exact hp
  | bad => exact hp
theorem fnF_of {P : Program} {w : World} {K : PySem.W.Frag} {mg : Str → Option Value} {base : Heap} {k : Nat} {x qual : Str} {params : Arguments} {body : List Stmt} {scope : Scope} {dvs : List V} {kws : List (Str × V)} {a : Addr} {fd : FuncData} {N ps : List Str}
    {p : String → Option FnD} {f : String} {d : FnD} (F : FunD K x qual params body scope dvs kws a fd) (S : FnScope N ps scope) (hp : p f = some d) (h1 : d.np = ps.length) (h2 : d.nl = N.length)
    (hb : ∀ (X : Cx) (W : WX), X.prog = P → X.w = w → X.K = K → X.mg = mg → X.base = base → Ctx X W N scope k → FSs X W body (d.body (run p k))) : FnF P w K mg base (k + 1) a fd ps (spF K mg (run p (k + 1)) f) := by
  obtain ⟨oc, od, dV, kV, doc, pm, an, cdv, ct, osl, rfl, lk, hcd, _, _⟩ := F.ex
  have lens : ∀ {vs H Q E}, spF K mg (run p (k + 1)) f vs H Q E → vs.length = ps.length := fun {vs H Q E} ⟨L, ts, s, hR, hd, hq⟩ => by
    simp only [run, hp, runD] at hq
    split at hq
    · rename_i e; rw [hd.length, e, h1]
    · exact hq.elim
  refine ⟨fun vs H Q E h => lens h, fun A below s H args us vs Q E hr e0 hbd rv hsp => ?_⟩
  have hl := lens hsp
  have KX : K.In s.heap := e0.mod.kin.keeps fun b o e => (e0.bs b o e).1
  have lim : s.heap.NoLimit := e0.mod.nolimit.keeps fun b o e => (e0.bs b o e).1
  have kinds : ∀ y ∈ ps.zip us, scope.names.lookup y.1 = some .local ∨ (scope.names.lookup y.1 = some .cell ∧ ((cellsFrom (s.heap.objs.size + 1) scope.names []).lookup y.1).isSome = true) := by
    intro y hy
    rcases S.par y.1 (List.of_mem_zip (show (y.1, y.2) ∈ ps.zip us from hy)).1 with q | q
    · exact .inl q
    · exact .inr ⟨q, PySem.W.cellsFrom_some _ _ _ (.inl q)⟩
  refine codeAny_call_function hr.room.depth (KX _ _ lk) rfl S.co S.gen rfl (PySem.W.codeRec_of KX hcd) (hbd _ _ _ _ ?_)
  refine wpAny_newFunctionEnv_cells S.kind kinds fun env he s1 x => ?_
  subst he
  refine ⟨lim.keeps x.toInCall.keep, codeAny_func ?_⟩
  have I : Inv (cxOf (L2.CX P w) P w K mg base N qual scope a cdv A below s H E) [] (start N vs) H s1 := inv_start S hr.room.hd e0 hl rv x
  have ctx : Ctx (cxOf (L2.CX P w) P w K mg base N qual scope a cdv A below s H E) (fun cls d _ H => E cls d H) N scope k :=
    ⟨⟨rfl, rfl, S.nd, rfl⟩, takes_of rfl rfl rfl rfl, hr.deeper _, passes_of rfl, fun _ => rfl, rfl, rfl⟩
  have body := hb _ _ rfl rfl rfl rfl rfl ctx
  have wish : lS K mg (fun cls d _ H => E cls d H) (d.body (run p k)) { nx := fun _ H' => Q .non H', rt := Q } (start N vs) H := by
    obtain ⟨L, ts, st, hR, hd, hq⟩ := hsp
    refine ⟨L, _, st, hR, start_er hd, ?_⟩
    simp only [run, hp, runD] at hq
    split at hq
    · rename_i e
      have hq := PostF.gc hR hq
      rw [h2] at hq
      have el : ts.length = ps.length := by rw [e, h1]
      rw [h1, ← el] at hq
      revert hq
      generalize d.body (run p k) _ st = o
      intro hq
      cases o with
      | nx r s' => exact fun σ L' H' x1 x2 _ => hq .non L' H' x1 x2 .non
      | rt t s' => exact hq
      | bk r s' => exact hq.elim
      | ct r s' => exact hq.elim
      | ex x r s' => exact fun cls d σ L' H' x1 x2 _ x4 => hq cls d L' H' x1 x2 x4
      | bad => exact hq.elim
    · exact hq.elim
  refine wpAny_mono (body.run [] s1 (start N vs) H _ I wish) (fun fl s' hs => ?_) fun e s' hs => hs
  match fl, hs with
  | .ret u, ⟨v, σ', H', J, rv', q⟩ => exact ⟨v, H', J.os, J.bare, J.base, J.hok, rv', q⟩
  | .next, ⟨σ', H', J, q⟩ => exact ⟨.non, H', J.os, J.bare, J.base, J.hok, rfl, q⟩
  | .brk, ⟨_, _, _, q⟩ => exact False.elim q
  | .cont, ⟨_, _, _, q⟩ => exact False.elim q
end Fx

set_option maxRecDepth 100000
set_option maxHeartbeats 2000000
/-! Fx: operators and built-ins by values. -/
namespace Fx
open PySem L2 PyProof.Rows

/-- numbers that are not too large -/
abbrev BIG : Int := 1000000000000000000000000000000000000000000000000000000000000
def okN (i : Int) : Bool := decide (-BIG ≤ i ∧ i ≤ BIG)
theorem okN_log {i : Int} (h : okN i = true) : i.natAbs.log2 < 200 := by
  have h := of_decide_eq_true h
  have e : i.natAbs < 2 ^ 200 := by
    have e2 : (2 : Nat) ^ 200 = 1606938044258990275541962092341162602522202993782792835301376 := by decide
    rw [e2]
    unfold BIG at h
    omega
  by_cases h0 : i.natAbs = 0
  · rw [h0]; decide
  · exact (Nat.log2_lt h0).mpr e

def oAdd : T → T → Sto → OV
  | .int i, .int j, s => some (.int (i + j), s)
  | .str a, .str b, s => if a.length + b.length ≤ sizeLine then some (.str (a ++ b), s) else none
  | .tup a, .tup b, s => if a.length + b.length ≤ sizeLine then some (.tup (a ++ b), s) else none
  | .loc m, .loc n, s => (match s.get m, s.get n with
    | some (.lst a), some (.lst b) => if a.length + b.length ≤ sizeLine then some (.loc s.len, s.add (.lst (a ++ b))) else none
    | _, _ => none)
  | _, _, _ => none
def oSub : T → T → Sto → OV
  | .int i, .int j, s => some (.int (i - j), s)
  | _, _, _ => none
def oMul : T → T → Sto → OV
  | .int i, .int j, s => if okN i && okN j then some (.int (i * j), s) else none
  | .loc m, .int k, s => (match s.get m with
    | some (.lst a) => if a.length * k.toNat ≤ sizeLine && okN k && decide (-(2 ^ 63) ≤ k ∧ k < 2 ^ 63) then some (.loc s.len, s.add (.lst (List.replicate k.toNat a).flatten)) else none
    | _ => none)
  | _, _, _ => none
def oDiv : T → T → Sto → OV
  | .int i, .int j, s => if decide (0 < j) && okN j then some (.int (i / j), s) else none
  | _, _, _ => none
def oMod : T → T → Sto → OV
  | .int i, .int j, s => if decide (0 < j) then some (.int (i % j), s) else none
  | _, _, _ => none
def oPow : T → T → Sto → OV
  | .int i, .int j, s => if decide (0 ≤ j ∧ j ≤ 1000 ∧ -1000 ≤ i ∧ i ≤ 1000) then some (.int (i ^ j.toNat), s) else none
  | _, _, _ => none
def uNeg : T → Sto → OV
  | .int i, s => some (.int (-i), s)
  | _, _ => none
def oLt : T → T → Sto → OV
  | .int i, .int j, s => some (.bl (decide (i < j)), s)
  | _, _, _ => none
def oLe : T → T → Sto → OV
  | .int i, .int j, s => some (.bl (decide (i ≤ j)), s)
  | _, _, _ => none
def oGt : T → T → Sto → OV
  | .int i, .int j, s => some (.bl (decide (j < i)), s)
  | _, _, _ => none
def oGe : T → T → Sto → OV
  | .int i, .int j, s => some (.bl (decide (j ≤ i)), s)
  | _, _, _ => none

section
variable {K : PySem.W.Frag} {mg : Str → Option Value} {L : List Addr} {H : Hp} {s : Sto}
theorem PostV.here {Q : VK} {t : T} {v : V} (hR : Rl K mg L s H) (d : D K mg L H v t) (h : PostV K mg L H Q (some (t, s))) : Q v H := h v L H Ex.refl hR d
theorem D.intE {v : V} {i : Int} (d : D K mg L H v (.int i)) : v = .int i := by cases d; rfl
theorem D.strE {v : V} {x : Str} (d : D K mg L H v (.str x)) : v = .str x := by cases d; rfl
theorem D.blE {v : V} {b : Bool} (d : D K mg L H v (.bl b)) : v = .bl b := by cases d; rfl
theorem D.nonE {v : V} (d : D K mg L H v .non) : v = .non := by cases d; rfl
theorem D.tupE {v : V} {ts : List T} (d : D K mg L H v (.tup ts)) : ∃ a vs, v = .ref a ∧ TupAt K H a vs ∧ Ds K mg L H vs ts := by cases d with | tup h q => exact ⟨_, _, rfl, h, q⟩
theorem D.frzE {v : V} {ts : List T} (d : D K mg L H v (.frz ts)) : ∃ a vs, v = .ref a ∧ FrzAt K H a vs ∧ Ds K mg L H vs ts := by cases d with | frz h q => exact ⟨_, _, rfl, h, q⟩
theorem D.locE {v : V} {n : Nat} (d : D K mg L H v (.loc n)) : ∃ a, v = .ref a ∧ L[n]? = some a := by cases d with | loc h => exact ⟨_, rfl, h⟩
theorem D.lstE {v : V} {n : Nat} {ts : List T} (hR : Rl K mg L s H) (d : D K mg L H v (.loc n)) (h : s.get n = some (.lst ts)) : ∃ a vs, v = .ref a ∧ L[n]? = some a ∧ H a = some (.lst vs) ∧ Ds K mg L H vs ts := by
  obtain ⟨a, rfl, e⟩ := d.locE
  obtain ⟨b, h1, vs, h2, h3⟩ := hR.get h
  rw [e] at h1; cases h1
  exact ⟨a, vs, rfl, e, h2, h3⟩
/-- a new list -/
theorem PostV.newLst {Q : VK} {vs : List V} {ts : List T} {p : Addr} (hR : Rl K mg L s H) (d : Ds K mg L H vs ts) (hp : H p = none) (h : PostV K mg L H Q (some (.loc s.len, s.add (.lst ts)))) : Q (.ref p) (upd H p (.lst vs)) :=
  h _ _ _ (Ex.add hp) (hR.add hp ⟨vs, upd_same, d.mono (Ex.laid hp)⟩) hR.addD
theorem PostV.newTup {Q : VK} {vs : List V} {ts : List T} {p : Addr} (hR : Rl K mg L s H) (d : Ds K mg L H vs ts) (hp : H p = none) (h : PostV K mg L H Q (some (.tup ts, s))) : Q (.ref p) (upd H p (.tup vs)) :=
  h _ _ _ (Ex.laid hp) (hR.laid hp) (.tup (.inl upd_same) (d.mono (Ex.laid hp)))
/-- a list is changed, None comes back -/
theorem PostV.putLst {Q : VK} {vs : List V} {ts : List T} {n : Nat} {a : Addr} {t : T} {v : V} (hR : Rl K mg L s H) (hn : L[n]? = some a) (d : Ds K mg L H vs ts) (dt : D K mg L H v t) (h : PostV K mg L H Q (some (t, s.put n (.lst ts)))) : Q v (upd H a (.lst vs)) := by
  have e := hR.exPut (ho := .lst vs) (List.mem_of_getElem? hn)
  exact h _ _ _ e (hR.put hn ⟨vs, upd_same, d.mono e⟩) (dt.mono e)
end

theorem getLst {o : Option O} {P : List T → OV} {s : Sto} (n : Nat) : True := trivial
section
variable {X : Cx}
/-- two ints -/
theorem opI {f : Value → Value → Sem Value} {g : T → T → Sto → OV} {r : Int → Int → Prop} {h : Int → Int → V} {h' : Int → Int → T} (hr : OpR X f (rI r h)) (ht : ∀ L H i j, D X.K X.mg L H (h i j) (h' i j))
    (hg : ∀ t1 t2 s, g t1 t2 s = none ∨ ∃ i j, t1 = .int i ∧ t2 = .int j ∧ r i j ∧ g t1 t2 s = some (h' i j, s)) : OpF X f g := .of fun L s t1 t2 x y H Q hR d1 d2 hp => by
  rcases hg t1 t2 s with e | ⟨i, j, rfl, rfl, hrr, e⟩
  · rw [e] at hp; exact hp.elim
  · rw [e] at hp
    cases d1.intE
    cases d2.intE
    exact ⟨_, hr, i, j, rfl, rfl, hrr, hp.here hR (ht L H i j)⟩
theorem rI_of {f : Value → Value → Sem Value} {h : Int → Int → V} (hr : OpR X f (rI0 h)) : OpR X f (rI (fun _ _ => True) h) := fun p s σ H x y v u Q I r1 r2 ⟨i, j, e1, e2, _, q⟩ => hr p s σ H x y v u Q I r1 r2 ⟨i, j, e1, e2, q⟩
theorem f_sub : OpF X (binaryOp .Sub) oSub := opI (h' := fun i j => .int (i - j)) (rI_of op_sub) (fun _ _ _ _ => .int _) fun t1 t2 s => by
  cases t1 <;> cases t2 <;> first | exact .inl rfl | exact .inr ⟨_, _, rfl, rfl, trivial, rfl⟩
theorem f_lt : OpF X (compareOp .Lt) oLt := opI (h' := fun i j => .bl (decide (i < j))) (rI_of op_lt) (fun _ _ _ _ => .bl _) fun t1 t2 s => by
  cases t1 <;> cases t2 <;> first | exact .inl rfl | exact .inr ⟨_, _, rfl, rfl, trivial, rfl⟩
theorem f_le : OpF X (compareOp .LtE) oLe := opI (h' := fun i j => .bl (decide (i ≤ j))) (rI_of op_le) (fun _ _ _ _ => .bl _) fun t1 t2 s => by
  cases t1 <;> cases t2 <;> first | exact .inl rfl | exact .inr ⟨_, _, rfl, rfl, trivial, rfl⟩
theorem f_gt : OpF X (compareOp .Gt) oGt := opI (h' := fun i j => .bl (decide (j < i))) (rI_of op_gt) (fun _ _ _ _ => .bl _) fun t1 t2 s => by
  cases t1 <;> cases t2 <;> first | exact .inl rfl | exact .inr ⟨_, _, rfl, rfl, trivial, rfl⟩
theorem f_ge : OpF X (compareOp .GtE) oGe := opI (h' := fun i j => .bl (decide (j ≤ i))) (rI_of op_ge) (fun _ _ _ _ => .bl _) fun t1 t2 s => by
  cases t1 <;> cases t2 <;> first | exact .inl rfl | exact .inr ⟨_, _, rfl, rfl, trivial, rfl⟩
theorem f_div : OpF X (binaryOp .FloorDiv) oDiv := opI (h' := fun i j => .int (i / j)) op_fdivW (fun _ _ _ _ => .int _) fun t1 t2 s => by
  cases t1 <;> cases t2 <;> first | exact .inl rfl | skip
  rename_i i j
  by_cases h : (decide (0 < j) && okN j) = true
  · obtain ⟨h1, h2⟩ := Bool.and_eq_true_iff.mp h
    exact .inr ⟨i, j, rfl, rfl, ⟨of_decide_eq_true h1, Nat.lt_trans (okN_log h2) (by decide)⟩, by simp only [oDiv]; rw [if_pos h]⟩
  · exact .inl (by simp only [oDiv]; rw [if_neg h])
theorem f_mod : OpF X (binaryOp .Mod) oMod := opI (h' := fun i j => .int (i % j)) op_mod (fun _ _ _ _ => .int _) fun t1 t2 s => by
  cases t1 <;> cases t2 <;> first | exact .inl rfl | skip
  rename_i i j
  by_cases h : decide (0 < j) = true
  · exact .inr ⟨i, j, rfl, rfl, of_decide_eq_true h, by simp only [oMod]; rw [if_pos h]⟩
  · exact .inl (by simp only [oMod]; rw [if_neg h])
theorem f_pow : OpF X (binaryOp .Pow) oPow := opI (h' := fun i j => .int (i ^ j.toNat)) op_pow (fun _ _ _ _ => .int _) fun t1 t2 s => by
  cases t1 <;> cases t2 <;> first | exact .inl rfl | skip
  rename_i i j
  by_cases h : decide (0 ≤ j ∧ j ≤ 1000 ∧ -1000 ≤ i ∧ i ≤ 1000) = true
  · have h' := of_decide_eq_true h
    refine .inr ⟨i, j, rfl, rfl, ⟨h'.1, by omega, ?_⟩, by simp only [oPow]; rw [if_pos h]⟩
    have e2 : (2 : Nat) ^ 64 = 18446744073709551616 := by decide
    rw [e2]; omega
  · exact .inl (by simp only [oPow]; rw [if_neg h])
theorem f_neg : UnF X (unaryOp .USub) uNeg := .of fun L s t x H Q hR d hp => by
  cases t with
  | int i => cases d.intE; exact ⟨_, un_neg, i, rfl, hp.here hR (.int _)⟩
  | _ => exact hp.elim
theorem f_add : OpF X (binaryOp .Add) oAdd := .of fun L s t1 t2 x y H Q hR d1 d2 hp => by
  cases t1 with
  | int i =>
    cases t2 with
    | int j => cases d1.intE; cases d2.intE; exact ⟨_, op_add, i, j, rfl, rfl, hp.here hR (.int _)⟩
    | _ => exact hp.elim
  | str a =>
    cases t2 with
    | str b =>
      simp only [oAdd] at hp
      split at hp
      · rename_i hz
        cases d1.strE; cases d2.strE
        exact ⟨_, op_add_str, a, b, rfl, rfl, hz, hp.here hR (.str _)⟩
      · exact hp.elim
    | _ => exact hp.elim
  | tup a =>
    cases t2 with
    | tup b =>
      simp only [oAdd] at hp
      split at hp
      · rename_i hz
        obtain ⟨p, vs, rfl, h1, q1⟩ := d1.tupE
        obtain ⟨q, ws, rfl, h2, q2⟩ := d2.tupE
        refine ⟨_, op_catA, p, q, vs, ws, rfl, rfl, h1.sq, h2.sq, by rw [q1.length, q2.length]; exact hz, fun e => ?_, fun _ e => ?_, fun _ _ r hr => ?_⟩
        · have : a = [] := by have := q1.length; rw [e] at this; exact List.length_eq_zero_iff.mp this.symm
          subst this
          exact hp.here hR (.tup h2 q2)
        · have : b = [] := by have := q2.length; rw [e] at this; exact List.length_eq_zero_iff.mp this.symm
          subst this
          rw [List.append_nil] at hp
          exact hp.here hR (.tup h1 q1)
        · exact hp.newTup hR (q1.app q2) hr
      · exact hp.elim
    | _ => exact hp.elim
  | loc m =>
    cases t2 with
    | loc n =>
      simp only [oAdd] at hp
      split at hp
      · rename_i a b e1 e2
        split at hp
        · rename_i hz
          obtain ⟨p, vs, rfl, _, h1, q1⟩ := D.lstE hR d1 e1
          obtain ⟨q, ws, rfl, _, h2, q2⟩ := D.lstE hR d2 e2
          exact ⟨_, op_cat, p, q, vs, ws, rfl, rfl, h1, h2, by rw [q1.length, q2.length]; exact hz, fun r hr => hp.newLst hR (q1.app q2) hr⟩
        · exact hp.elim
      · exact hp.elim
    | _ => exact hp.elim
  | _ => exact hp.elim
theorem Ds.rep {K : PySem.W.Frag} {mg : Str → Option Value} {L : List Addr} {H : Hp} {vs : List V} {ts : List T} (d : Ds K mg L H vs ts) : ∀ k : Nat, Ds K mg L H (List.replicate k vs).flatten (List.replicate k ts).flatten
  | 0 => .nil
  | k + 1 => by rw [List.replicate_succ, List.replicate_succ, List.flatten_cons, List.flatten_cons]; exact d.app (Ds.rep d k)
theorem f_mul : OpF X (binaryOp .Mult) oMul := .of fun L s t1 t2 x y H Q hR d1 d2 hp => by
  cases t1 with
  | int i =>
    cases t2 with
    | int j =>
      simp only [oMul] at hp
      split at hp
      · rename_i hz
        obtain ⟨h1, h2⟩ := Bool.and_eq_true_iff.mp hz
        cases d1.intE; cases d2.intE
        refine ⟨_, op_mulW, i, j, rfl, rfl, ?_, hp.here hR (.int _)⟩
        have := okN_log h1
        have := okN_log h2
        unfold CMulW; omega
      · exact hp.elim
    | _ => exact hp.elim
  | loc m =>
    cases t2 with
    | int k =>
      simp only [oMul] at hp
      split at hp
      · rename_i a e1
        split at hp
        · rename_i hz
          obtain ⟨hz, h3⟩ := Bool.and_eq_true_iff.mp hz
          obtain ⟨hz, _⟩ := Bool.and_eq_true_iff.mp hz
          have hz := of_decide_eq_true hz
          have h3 := of_decide_eq_true h3
          obtain ⟨p, vs, rfl, _, h1, q1⟩ := D.lstE hR d1 e1
          cases d2.intE
          exact ⟨_, op_rep, p, k, vs, rfl, rfl, h1, h3.1, h3.2, by rw [q1.length]; exact hz, fun r hr => hp.newLst hR (q1.rep _) hr⟩
        · exact hp.elim
      · exact hp.elim
    | _ => exact hp.elim
  | _ => exact hp.elim
/-- name += e -/
theorem ip_of {op : Operator} {g : T → T → Sto → OV} {r : Int → Int → Int} (hr : PIp X op (ipI r)) (hg : ∀ t1 t2 s, g t1 t2 s = none ∨ ∃ i j, t1 = .int i ∧ t2 = .int j ∧ g t1 t2 s = some (.int (r i j), s)) : PIp X op (rO X.K X.mg g) := by
  intro pins s σ H x y v u Q I rx ry ⟨L, st, t1, t2, hR, d1, d2, hp⟩
  rcases hg t1 t2 st with e | ⟨i, j, rfl, rfl, e⟩
  · rw [e] at hp; exact hp.elim
  · rw [e] at hp
    cases d1.intE; cases d2.intE
    exact hr pins s σ H _ _ v u Q I rx ry ⟨i, j, rfl, rfl, hp.here hR (.int _)⟩
def oAddI : T → T → Sto → OV
  | .int i, .int j, s => some (.int (i + j), s)
  | _, _, _ => none
theorem i_add : PIp X .Add (rO X.K X.mg oAddI) := ip_of ip_add fun t1 t2 s => by
  cases t1 <;> cases t2 <;> first | exact .inl rfl | exact .inr ⟨_, _, rfl, rfl, rfl⟩
theorem i_sub : PIp X .Sub (rO X.K X.mg oSub) := ip_of ip_sub fun t1 t2 s => by
  cases t1 <;> cases t2 <;> first | exact .inl rfl | exact .inr ⟨_, _, rfl, rfl, rfl⟩
end
end Fx

set_option maxRecDepth 100000
set_option maxHeartbeats 2000000
/-! Fx: equality, membership, built-ins over lists. -/
namespace Fx
open PySem L2 PyProof.Rows

/-! ### data -/
def mapO {α β : Type} (f : α → Option β) : List α → Option (List β)
  | [] => some []
  | a :: r => (match f a with
    | some b => (match mapO f r with | some bs => some (b :: bs) | none => none)
    | none => none)
/-- a tree as data, its lists by the store -/
def toD : Nat → Sto → T → Option PyData
  | 0, _, _ => none
  | n + 1, s, t => match t with
    | .non => some .none
    | .bl b => some (.bool b)
    | .int i => some (.int i)
    | .str x => if PyData.strOk x = true then some (.str x) else none
    | .tup ts => (mapO (toD n s) ts).map .tuple
    | .frz ts => (mapO (toD n s) ts).map .list
    | .loc i => (match s.get i with
      | some (.lst ts) => (mapO (toD n s) ts).map .list
      | _ => none)
    | .ty _ => none
    | .glo _ => none
/-- deep enough for any data here -/
abbrev DEEP : Nat := 30
theorem toD_ok : ∀ (n : Nat) (s : Sto) (t : T) (d : PyData), toD n s t = some d → d.canLay0 = true ∧ d.depth ≤ n
  | 0, _, _, _, h => by simp [toD] at h
  | n + 1, s, t, d, h => by
    have all : ∀ (ts : List T) (ds : List PyData), mapO (toD n s) ts = some ds → PyData.canLayAll0 ds = true ∧ PyData.depthAll ds ≤ n := by
      intro ts
      induction ts with
      | nil => intro ds h; simp [mapO] at h; subst h; simp [PyData.canLayAll0, PyData.depthAll]
      | cons t r ih =>
        intro ds h
        simp only [mapO] at h
        split at h
        · rename_i b e1
          split at h
          · rename_i bs e2
            cases h
            obtain ⟨h1, h2⟩ := toD_ok n s t b e1
            obtain ⟨h3, h4⟩ := ih bs e2
            simp only [PyData.canLayAll0, PyData.depthAll, h1, h3]
            exact ⟨rfl, by omega⟩
          · cases h
        · cases h
    have lst : ∀ (ts : List T) (g : List PyData → PyData), (∀ ds, (g ds).canLay0 = PyData.canLayAll0 ds ∧ (g ds).depth = PyData.depthAll ds + 1) → (mapO (toD n s) ts).map g = some d → d.canLay0 = true ∧ d.depth ≤ n + 1 := by
      intro ts g hg h
      obtain ⟨ds, e, rfl⟩ := Option.map_eq_some_iff.mp h
      obtain ⟨h1, h2⟩ := all ts ds e
      obtain ⟨h3, h4⟩ := hg ds
      exact ⟨by rw [h3]; exact h1, by rw [h4]; omega⟩
    have gt : ∀ ds, (PyData.tuple ds).canLay0 = PyData.canLayAll0 ds ∧ (PyData.tuple ds).depth = PyData.depthAll ds + 1 := fun ds => ⟨by simp [PyData.canLay0], by simp [PyData.depth]⟩
    have gl : ∀ ds, (PyData.list ds).canLay0 = PyData.canLayAll0 ds ∧ (PyData.list ds).depth = PyData.depthAll ds + 1 := fun ds => ⟨by simp [PyData.canLay0], by simp [PyData.depth]⟩
    cases t with
    | non => simp [toD] at h; subst h; simp [PyData.canLay0, PyData.depth]
    | bl b => simp [toD] at h; subst h; simp [PyData.canLay0, PyData.depth]
    | int i => simp [toD] at h; subst h; simp [PyData.canLay0, PyData.depth]
    | str x =>
      simp only [toD] at h
      split at h
      · rename_i e; cases h; simp [PyData.canLay0, PyData.depth, e]
      · cases h
    | tup ts => exact lst ts _ gt (by simpa only [toD] using h)
    | frz ts => exact lst ts _ gl (by simpa only [toD] using h)
    | loc i =>
      simp only [toD] at h
      split at h
      · rename_i ts e; exact lst ts _ gl h
      · cases h
    | ty _ => simp [toD] at h
    | glo _ => simp [toD] at h
theorem toD_shaped {s : Sto} {t : T} {d : PyData} (h : toD DEEP s t = some d) : SeqAt.shaped d = true := by
  obtain ⟨h1, h2⟩ := toD_ok _ _ _ _ h
  unfold SeqAt.shaped
  rw [h1]
  simp only [Bool.true_and, decide_eq_true_eq]
  exact Nat.le_trans h2 (by decide)
section
variable {K : PySem.W.Frag} {mg : Str → Option Value} {L : List Addr} {H : Hp} {s : Sto}
theorem toD_dp (hR : Rl K mg L s H) : ∀ (n : Nat) (t : T) (d : PyData) (v : V), toD n s t = some d → D K mg L H v t → Dp K H v d
  | 0, _, _, _, h, _ => by simp [toD] at h
  | n + 1, t, d, v, h, q => by
    have all : ∀ (ts : List T) (ds : List PyData) (vs : List V), mapO (toD n s) ts = some ds → Ds K mg L H vs ts → DpAll K H vs ds := by
      intro ts
      induction ts with
      | nil => intro ds vs h q; simp [mapO] at h; subst h; cases q; exact .nil
      | cons t r ih =>
        intro ds vs h q
        simp only [mapO] at h
        split at h
        · rename_i b e1
          split at h
          · rename_i bs e2
            cases h
            cases q with
            | cons q1 q2 => exact .cons (toD_dp hR n t b _ e1 q1) (ih bs _ e2 q2)
          · cases h
        · cases h
    cases t with
    | non => cases q; simp [toD] at h; subst h; exact .non
    | bl b => cases q; simp [toD] at h; subst h; exact .bl b
    | int i => cases q; simp [toD] at h; subst h; exact .int i
    | str x =>
      cases q
      simp only [toD] at h
      split at h
      · cases h; exact .str x
      · cases h
    | tup ts =>
      simp only [toD] at h
      obtain ⟨ds, e, rfl⟩ := Option.map_eq_some_iff.mp h
      obtain ⟨a, vs, rfl, h1, h2⟩ := q.tupE
      exact .tup h1.sq (all ts ds vs e h2)
    | frz ts =>
      simp only [toD] at h
      obtain ⟨ds, e, rfl⟩ := Option.map_eq_some_iff.mp h
      obtain ⟨a, vs, rfl, h1, h2⟩ := q.frzE
      exact .lst h1.sq (all ts ds vs e h2)
    | loc i =>
      simp only [toD] at h
      split at h
      · rename_i ts e0
        obtain ⟨ds, e, rfl⟩ := Option.map_eq_some_iff.mp h
        obtain ⟨a, vs, rfl, _, h1, h2⟩ := D.lstE hR q e0
        exact .lst (.inl (.inl h1)) (all ts ds vs e h2)
      · cases h
    | ty _ => simp [toD] at h
    | glo _ => simp [toD] at h
end
def eqS : T → T → Option Bool
  | .int i, .int j => some (decide (i = j))
  | .str x, .str y => some (decide (x = y))
  | .bl x, .bl y => some (decide (x = y))
  | .non, .non => some true
  | .non, .int _ => some false | .int _, .non => some false
  | .non, .str _ => some false | .str _, .non => some false
  | .int _, .str _ => some false | .str _, .int _ => some false
  | _, _ => none
/-- Python's == -/
def eqT (s : Sto) (a b : T) : Option Bool := match eqS a b with
  | some k => some k
  | none => (match toD DEEP s a, toD DEEP s b with
    | some d, some e => some (PyData.eqv d e)
    | _, _ => none)
def oEq : T → T → Sto → OV := fun a b s => (eqT s a b).map fun k => (.bl k, s)
def oNe : T → T → Sto → OV := fun a b s => (eqT s a b).map fun k => (.bl (!k), s)
/-- is None -/
def isNon : T → Bool
  | .non => true
  | .bl _ => false | .int _ => false | .str _ => false | .tup _ => false | .frz _ => false | .loc _ => false | .ty _ => false | .glo _ => false
def oIsN : T → T → Sto → OV := fun a b s => match b with
  | .non => some (.bl (isNon a), s)
  | _ => none
def oNotN : T → T → Sto → OV := fun a b s => match b with
  | .non => some (.bl (!isNon a), s)
  | _ => none
section
variable {X : Cx}
theorem eqS_of {K : PySem.W.Frag} {mg : Str → Option Value} {L : List Addr} {H : Hp} {x y : V} {a b : T} {k : Bool} (d1 : D K mg L H x a) (d2 : D K mg L H y b) (h : eqS a b = some k) : scal x y = true ∧ decide (x = y) = k := by
  cases d1 <;> cases d2 <;> simp [eqS] at h <;> subst h <;> simp [scal]
theorem f_eq (hu : X.A.units + 64 < cLine) : OpF X (compareOp .Eq) oEq := .of fun L s t1 t2 x y H Q hR d1 d2 hp => by
  unfold oEq eqT at hp
  cases e : eqS t1 t2 with
  | some k =>
    rw [e] at hp
    obtain ⟨h1, h2⟩ := eqS_of d1 d2 e
    exact ⟨_, op_eq, h1, by rw [h2]; exact hp.here hR (.bl _)⟩
  | none =>
    rw [e] at hp
    cases e1 : toD DEEP s t1 with
    | none => rw [e1] at hp; exact hp.elim
    | some d =>
      cases e2 : toD DEEP s t2 with
      | none => rw [e1, e2] at hp; exact hp.elim
      | some d' =>
        rw [e1, e2] at hp
        exact ⟨_, op_eqD hu, d, d', toD_dp hR _ _ _ _ e1 d1, toD_dp hR _ _ _ _ e2 d2, toD_shaped e1, toD_shaped e2, hp.here hR (.bl _)⟩
theorem f_ne (hu : X.A.units + 64 < cLine) : OpF X (compareOp .NotEq) oNe := .of fun L s t1 t2 x y H Q hR d1 d2 hp => by
  unfold oNe eqT at hp
  cases e : eqS t1 t2 with
  | some k =>
    rw [e] at hp
    obtain ⟨h1, h2⟩ := eqS_of d1 d2 e
    exact ⟨_, op_ne, h1, by rw [h2]; exact hp.here hR (.bl _)⟩
  | none =>
    rw [e] at hp
    cases e1 : toD DEEP s t1 with
    | none => rw [e1] at hp; exact hp.elim
    | some d =>
      cases e2 : toD DEEP s t2 with
      | none => rw [e1, e2] at hp; exact hp.elim
      | some d' =>
        rw [e1, e2] at hp
        exact ⟨_, op_neD hu, d, d', toD_dp hR _ _ _ _ e1 d1, toD_dp hR _ _ _ _ e2 d2, toD_shaped e1, toD_shaped e2, hp.here hR (.bl _)⟩
theorem isN_of {K : PySem.W.Frag} {mg : Str → Option Value} {L : List Addr} {H : Hp} {x : V} {a : T} (d1 : D K mg L H x a) : decide (x = .non) = isNon a := by
  cases d1 <;> simp [isNon]
theorem f_isN : OpF X (compareOp .Is) oIsN := .of fun L s t1 t2 x y H Q hR d1 d2 hp => by
  cases t2 with
  | non => cases d2.nonE; exact ⟨_, op_isN, rfl, by rw [isN_of d1]; exact hp.here hR (.bl _)⟩
  | _ => exact hp.elim
theorem f_notN : OpF X (compareOp .IsNot) oNotN := .of fun L s t1 t2 x y H Q hR d1 d2 hp => by
  cases t2 with
  | non =>
    cases d2.nonE
    refine ⟨_, op_notN, rfl, ?_⟩
    rw [isN_of d1]; exact hp.here hR (.bl _)
  | _ => exact hp.elim

/-! ### in -/
def flatT : T → Bool
  | .non => true | .bl _ => true | .int _ => true | .str _ => true | _ => false
/-- y == x of flat things -/
def eqF : T → T → Bool
  | .non, .non => true
  | .bl a, .bl b => a == b
  | .bl a, .int b => (if a then 1 else 0) == b
  | .int a, .bl b => a == (if b then 1 else 0)
  | .int a, .int b => a == b
  | .str a, .str b => a == b
  | _, _ => false
def itemsT (s : Sto) : T → Option (List T)
  | .tup ts => some ts
  | .frz ts => some ts
  | .loc n => (match s.get n with | some (.lst ts) => some ts | _ => none)
  | _ => none
def inT (s : Sto) (a b : T) : Option Bool := match b with
  | .str z => (match a with
    | .str x => if x.cps.size = 1 then some (decide (x.cps.getD 0 0 ∈ z.cps.toList)) else none
    | _ => none)
  | b => (match itemsT s b with
    | some ts => if flatT a && ts.all flatT then some (ts.any fun y => eqF y a) else none
    | none => none)
def oIn : T → T → Sto → OV := fun a b s => (inT s a b).map fun k => (.bl k, s)
def oNotIn : T → T → Sto → OV := fun a b s => (inT s a b).map fun k => (.bl (!k), s)
theorem D.flat {K : PySem.W.Frag} {mg : Str → Option Value} {L : List Addr} {H : Hp} {x : V} {a : T} (d : D K mg L H x a) (h : flatT a = true) : flatV x = true := by
  cases d <;> first | rfl | simp [flatT] at h
theorem Ds.flat {K : PySem.W.Frag} {mg : Str → Option Value} {L : List Addr} {H : Hp} : ∀ {xs : List V} {ts : List T}, Ds K mg L H xs ts → ts.all flatT = true → xs.all flatV = true
  | _, _, .nil, _ => rfl
  | _, _, .cons d r, h => by
    simp only [List.all_cons, Bool.and_eq_true] at h ⊢
    exact ⟨d.flat h.1, Ds.flat r h.2⟩
theorem eqF_of {K : PySem.W.Frag} {mg : Str → Option Value} {L : List Addr} {H : Hp} {x y : V} {a b : T} (d1 : D K mg L H x a) (d2 : D K mg L H y b) : eqV x y = eqF a b := by
  cases d1 <;> cases d2 <;> rfl
theorem inV_of {K : PySem.W.Frag} {mg : Str → Option Value} {L : List Addr} {H : Hp} {x : V} {a : T} (d1 : D K mg L H x a) : ∀ {xs : List V} {ts : List T}, Ds K mg L H xs ts → inV x xs = ts.any fun y => eqF y a
  | _, _, .nil => rfl
  | _, _, .cons d r => by
    have ih := inV_of d1 r
    unfold inV at ih ⊢
    rw [List.any_cons, List.any_cons, ih, eqF_of d d1]
theorem items_of {L : List Addr} {s : Sto} {H : Hp} {v : V} {t : T} {ts : List T} (hR : Rl X.K X.mg L s H) (d : D X.K X.mg L H v t) (h : itemsT s t = some ts) : ∃ p vs, v = .ref p ∧ (SqL X.K H p vs ∨ SqT X.K H p vs) ∧ Ds X.K X.mg L H vs ts := by
  cases t with
  | tup us => simp [itemsT] at h; subst h; obtain ⟨a, vs, rfl, h1, h2⟩ := d.tupE; exact ⟨a, vs, rfl, .inr h1.sq, h2⟩
  | frz us => simp [itemsT] at h; subst h; obtain ⟨a, vs, rfl, h1, h2⟩ := d.frzE; exact ⟨a, vs, rfl, .inl h1.sq, h2⟩
  | loc n =>
    simp only [itemsT] at h
    split at h
    · rename_i us e
      cases h
      obtain ⟨a, vs, rfl, _, h1, h2⟩ := D.lstE hR d e
      exact ⟨a, vs, rfl, .inl (.inl (.inl h1)), h2⟩
    · cases h
  | _ => simp [itemsT] at h
theorem sign_of {x : Str} (h : x.cps.size = 1) : x = ⟨#[x.cps.getD 0 0]⟩ := by
  obtain ⟨⟨l⟩⟩ := x
  match l, h with
  | [c], _ => rfl
theorem f_in : OpF X (compareOp .In) oIn := .of fun L s t1 t2 x y H Q hR d1 d2 hp => by
  have seq : ∀ ts, itemsT s t2 = some ts → (flatT t1 && ts.all flatT) = true → PostV X.K X.mg L H Q (some (.bl (ts.any fun y => eqF y t1), s)) → ∃ r, OpR X (compareOp .In) r ∧ r x y H Q := fun ts e hf hp => by
    obtain ⟨p, vs, rfl, h1, h2⟩ := items_of hR d2 e
    obtain ⟨f1, f2⟩ := Bool.and_eq_true_iff.mp hf
    exact ⟨_, op_in_seq, p, vs, rfl, h1, d1.flat f1, h2.flat f2, by rw [if_neg Bool.false_ne_true, inV_of d1 h2]; exact hp.here hR (.bl _)⟩
  unfold oIn inT at hp
  split at hp
  · rename_i z
    split at hp
    · rename_i c
      split at hp
      · rename_i hc
        cases d1.strE; cases d2.strE
        exact ⟨_, op_in_sign, _, z, congrArg V.str (sign_of hc), rfl, hp.here hR (.bl _)⟩
      · exact hp.elim
    · exact hp.elim
  · split at hp
    · rename_i ts e
      split at hp
      · rename_i hf; exact seq ts e hf hp
      · exact hp.elim
    · exact hp.elim
theorem f_notIn : OpF X (compareOp .NotIn) oNotIn := .of fun L s t1 t2 x y H Q hR d1 d2 hp => by
  have seq : ∀ ts, itemsT s t2 = some ts → (flatT t1 && ts.all flatT) = true → PostV X.K X.mg L H Q (some (.bl (!(ts.any fun y => eqF y t1)), s)) → ∃ r, OpR X (compareOp .NotIn) r ∧ r x y H Q := fun ts e hf hp => by
    obtain ⟨p, vs, rfl, h1, h2⟩ := items_of hR d2 e
    obtain ⟨f1, f2⟩ := Bool.and_eq_true_iff.mp hf
    exact ⟨_, op_notIn_seq, p, vs, rfl, h1, d1.flat f1, h2.flat f2, by rw [if_pos rfl, inV_of d1 h2]; exact hp.here hR (.bl _)⟩
  unfold oNotIn inT at hp
  split at hp
  · rename_i z
    split at hp
    · rename_i c
      split at hp
      · rename_i hc
        cases d1.strE; cases d2.strE
        exact ⟨_, op_notIn_sign, _, z, congrArg V.str (sign_of hc), rfl, hp.here hR (.bl _)⟩
      · exact hp.elim
    · exact hp.elim
  · split at hp
    · rename_i ts e
      split at hp
      · rename_i hf; exact seq ts e hf hp
      · exact hp.elim
    · exact hp.elim

/-! ### len, isinstance, small built-ins -/
def lenT (s : Sto) : T → Option Int
  | .str x => if x.length ≤ sizeLine then some x.length else none
  | t => (itemsT s t).map fun ts => (ts.length : Int)
def fLen : List T → Sto → OV
  | [t], s => (lenT s t).map fun n => (.int n, s)
  | _, _ => none
theorem f_len : CallF X (.builtin "len") fLen := .of fun L s ts vs H Q hR d hp => by
  match ts, hp with
  | [t], hp =>
    cases d with
    | cons d1 q =>
      cases q
      rename_i v
      simp only [fLen] at hp
      by_cases hs : ∃ x, t = .str x
      · obtain ⟨x, rfl⟩ := hs
        simp only [lenT] at hp
        split at hp
        · rename_i hz
          cases d1.strE
          exact ⟨_, call_len_str, x, rfl, hz, hp.here hR (.int _)⟩
        · exact hp.elim
      · have e : lenT s t = (itemsT s t).map fun ts => (ts.length : Int) := by
          cases t <;> first | rfl | exact absurd ⟨_, rfl⟩ hs
        rw [e] at hp
        cases e2 : itemsT s t with
        | none => rw [e2] at hp; exact hp.elim
        | some us =>
          rw [e2] at hp
          obtain ⟨p, vs, rfl, h1, h2⟩ := items_of hR d1 e2
          exact ⟨_, call_len_seq, p, vs, rfl, h1, by rw [h2.length]; exact hp.here hR (.int _)⟩
  | [], hp => exact hp.elim
  | _ :: _ :: _, hp => exact hp.elim
/-- a built-in type's name -/
def tyOf (s : Sto) : T → Option String
  | .non => some "NoneType" | .bl _ => some "bool" | .int _ => some "int" | .str _ => some "str" | .tup _ => some "tuple" | .frz _ => some "list"
  | .loc n => (match s.get n with | some (.lst _) => some "list" | some (.dct _) => some "dict" | _ => none)
  | _ => none
abbrev KINDS : List String := ["bool", "int", "str", "tuple", "list", "dict"]
def fIsI : List T → Sto → OV
  | [t, .ty n], s => (match tyOf s t with
    | some a => if n ∈ KINDS then some (.bl (decide (a = n) || (decide (a = "bool") && decide (n = "int"))), s) else none
    | none => none)
  | _, _ => none
theorem kit_all : ∀ a ∈ ("NoneType" :: KINDS), ∀ n ∈ KINDS, kitB a n = some (decide (a = n) || (decide (a = "bool") && decide (n = "int"))) := by decide +kernel
theorem tyX_of {L : List Addr} {s : Sto} {H : Hp} {v : V} {t : T} {a : String} (hR : Rl X.K X.mg L s H) (d : D X.K X.mg L H v t) (h : tyOf s t = some a) : TyX X.K H v (.type a) ∧ a ∈ ("NoneType" :: KINDS) := by
  cases t with
  | non => simp [tyOf] at h; subst h; cases d.nonE; exact ⟨.base .non, by decide⟩
  | bl b => simp [tyOf] at h; subst h; cases d.blE; exact ⟨.base (.bl b), by decide⟩
  | int i => simp [tyOf] at h; subst h; cases d.intE; exact ⟨.base (.int i), by decide⟩
  | str i => simp [tyOf] at h; subst h; cases d.strE; exact ⟨.base (.str i), by decide⟩
  | tup ts =>
    simp [tyOf] at h; subst h
    obtain ⟨p, vs, rfl, h1, _⟩ := d.tupE
    refine ⟨?_, by decide⟩
    rcases h1 with h1 | ⟨o, its, n, h1, h2, _⟩
    · exact .base (.tup h1)
    · exact .kTuple h1 h2
  | frz ts =>
    simp [tyOf] at h; subst h
    obtain ⟨p, vs, rfl, h1, _⟩ := d.frzE
    refine ⟨?_, by decide⟩
    rcases h1 with ⟨o, h1⟩ | ⟨o, its, n, h1, h2, _⟩
    · exact .base (.frz h1)
    · exact .kList h1 h2
  | loc n =>
    simp only [tyOf] at h
    split at h
    · rename_i ts e
      cases h
      obtain ⟨p, vs, rfl, _, h1, _⟩ := D.lstE hR d e
      exact ⟨.base (.lst h1), by decide⟩
    · rename_i kvs e
      cases h
      obtain ⟨p, rfl, e1⟩ := d.locE
      obtain ⟨q, h1, kvs', h2, _⟩ := hR.get e
      rw [e1] at h1; cases h1
      exact ⟨.base (.dK h2), by decide⟩
    · cases h
  | ty n => simp [tyOf] at h
  | glo n => simp [tyOf] at h
theorem f_isI : CallF X (.builtin "isinstance") fIsI := .of fun L s ts vs H Q hR d hp => by
  unfold fIsI at hp
  split at hp
  · rename_i t n
    split at hp
    · rename_i a e
      split at hp
      · rename_i hn
        cases d with
        | cons d1 q =>
          cases q with
          | cons d2 q =>
            cases q
            obtain ⟨h1, h2⟩ := tyX_of hR d1 e
            cases d2
            exact ⟨_, call_isi, _, _, _, _, _, rfl, .ty n, h1, kit_ty (kit_all a h2 n hn), hp.here hR (.bl _)⟩
      · exact hp.elim
    · exact hp.elim
  · exact hp.elim
/-- one argument -/
theorem one_of {L : List Addr} {H : Hp} {vs : List V} {t : T} (d : Ds X.K X.mg L H vs [t]) : ∃ v, vs = [v] ∧ D X.K X.mg L H v t := by
  cases d with | cons d1 q => cases q; exact ⟨_, rfl, d1⟩
theorem two_of {L : List Addr} {H : Hp} {vs : List V} {t u : T} (d : Ds X.K X.mg L H vs [t, u]) : ∃ v w, vs = [v, w] ∧ D X.K X.mg L H v t ∧ D X.K X.mg L H w u := by
  cases d with | cons d1 q => cases q with | cons d2 q => cases q; exact ⟨_, _, rfl, d1, d2⟩
def fAbs : List T → Sto → OV
  | [.int i], s => some (.int (if i < 0 then -i else i), s)
  | _, _ => none
theorem f_abs : CallF X (.builtin "abs") fAbs := .of fun L s ts vs H Q hR d hp => by
  unfold fAbs at hp
  split at hp
  · obtain ⟨v, rfl, d1⟩ := one_of d
    cases d1.intE
    exact ⟨_, call_abs, _, rfl, hp.here hR (.int _)⟩
  · exact hp.elim
def fMin2 : List T → Sto → OV
  | [.int i, .int j], s => some (.int (if j < i then j else i), s)
  | _, _ => none
def fMax2 : List T → Sto → OV
  | [.int i, .int j], s => some (.int (if j > i then j else i), s)
  | _, _ => none
theorem f_min2 (hc : X.calm = true) : CallF X (.builtin "min") fMin2 := .of fun L s ts vs H Q hR d hp => by
  unfold fMin2 at hp
  split at hp
  · obtain ⟨v, w, rfl, d1, d2⟩ := two_of d
    cases d1.intE; cases d2.intE
    exact ⟨_, call_min2 hc, _, _, rfl, hp.here hR (.int _)⟩
  · exact hp.elim
theorem f_max2 (hc : X.calm = true) : CallF X (.builtin "max") fMax2 := .of fun L s ts vs H Q hR d hp => by
  unfold fMax2 at hp
  split at hp
  · obtain ⟨v, w, rfl, d1, d2⟩ := two_of d
    cases d1.intE; cases d2.intE
    exact ⟨_, call_max2 hc, _, _, rfl, hp.here hR (.int _)⟩
  · exact hp.elim
def fInt : List T → Sto → OV
  | [.int i], s => some (.int i, s)
  | [.bl k], s => some (.int (if k then 1 else 0), s)
  | [.str a], s => (match PySem.intText? a with
    | some n => if a.length ≤ 640 then some (.int n, s) else none
    | none => none)
  | _, _ => none
theorem f_int : CallF X (.type "int") fInt := .of fun L s ts vs H Q hR d hp => by
  unfold fInt at hp
  split at hp
  · obtain ⟨v, rfl, d1⟩ := one_of d
    cases d1.intE
    exact ⟨_, call_int1, .inl ⟨_, rfl, hp.here hR (.int _)⟩⟩
  · obtain ⟨v, rfl, d1⟩ := one_of d
    cases d1.blE
    exact ⟨_, call_int1, .inr ⟨_, rfl, hp.here hR (.int _)⟩⟩
  · obtain ⟨v, rfl, d1⟩ := one_of d
    cases d1.strE
    split at hp
    · rename_i n e
      split at hp
      · rename_i hz; exact ⟨_, call_int_str, _, n, rfl, e, hz, hp.here hR (.int _)⟩
      · exact hp.elim
    · exact hp.elim
  · exact hp.elim
def fStr : List T → Sto → OV
  | [.int i], s => if okN i then some (.str (toString i), s) else none
  | [.str a], s => some (.str a, s)
  | _, _ => none
theorem f_str : CallF X (.type "str") fStr := .of fun L s ts vs H Q hR d hp => by
  unfold fStr at hp
  split at hp
  · split at hp
    · rename_i hz
      obtain ⟨v, rfl, d1⟩ := one_of d
      cases d1.intE
      exact ⟨_, call_str_int, _, rfl, Nat.lt_trans (okN_log hz) (by decide), hp.here hR (.str _)⟩
    · exact hp.elim
  · obtain ⟨v, rfl, d1⟩ := one_of d
    cases d1.strE
    exact ⟨_, SkE.call_str_str, _, rfl, hp.here hR (.str _)⟩
  · exact hp.elim
def fTup : List T → Sto → OV
  | [t], s => (itemsT s t).map fun ts => (.tup ts, s)
  | _, _ => none
def hTup : List T → Sto → OV := fun ts s => some (.tup ts, s)
theorem f_tup : CallF X (.type "tuple") fTup := .of fun L s ts vs H Q hR d hp => by
  unfold fTup at hp
  split at hp
  · rename_i t
    obtain ⟨v, rfl, d1⟩ := one_of d
    cases e : itemsT s t with
    | none => rw [e] at hp; exact hp.elim
    | some us =>
      rw [e] at hp
      by_cases ht : ∃ ws, t = .tup ws
      · obtain ⟨ws, rfl⟩ := ht
        simp [itemsT] at e
        subst e
        obtain ⟨p, vs, rfl, h1, h2⟩ := d1.tupE
        exact ⟨_, call_tuple_of, p, vs, rfl, .inr ⟨h1.sq, hp.here hR (.tup h1 h2)⟩⟩
      · obtain ⟨p, vs, rfl, h1, h2⟩ := items_of hR d1 e
        rcases h1 with h1 | h1
        · exact ⟨_, call_tuple_of, p, vs, rfl, .inl ⟨h1, fun l hl => hp.newTup hR h2 hl⟩⟩
        · cases t with
          | tup ws => exact absurd ⟨ws, rfl⟩ ht
          | frz ws =>
            obtain ⟨p', vs', e1, h3, h4⟩ := d1.frzE
            cases e1
            simp [itemsT] at e; subst e
            exact ⟨_, call_tuple_of, p, vs', rfl, .inl ⟨h3.sq, fun l hl => hp.newTup hR h4 hl⟩⟩
          | loc n =>
            simp only [itemsT] at e
            split at e
            · rename_i us' e2
              cases e
              obtain ⟨p', vs', e1, _, h3, h4⟩ := D.lstE hR d1 e2
              cases e1
              exact ⟨_, call_tuple_of, p, vs', rfl, .inl ⟨.inl (.inl h3), fun l hl => hp.newTup hR h4 hl⟩⟩
            · cases e
          | _ => simp [itemsT] at e
  · exact hp.elim
theorem c_tup : CallTmp X (.type "tuple") hTup := ⟨_, call_tuple_of, fun p L s H vs ts Q hR hl np hz d hp => ⟨p, vs, rfl, .inl ⟨.inl (.inl hl), fun l hn => hp.newTup hR d hn⟩⟩⟩
def fList : List T → Sto → OV
  | [t], s => (itemsT s t).map fun ts => (.loc s.len, s.add (.lst ts))
  | _, _ => none
theorem f_list : CallF X (.type "list") fList := .of fun L s ts vs H Q hR d hp => by
  unfold fList at hp
  split at hp
  · rename_i t
    obtain ⟨v, rfl, d1⟩ := one_of d
    cases e : itemsT s t with
    | none => rw [e] at hp; exact hp.elim
    | some us =>
      rw [e] at hp
      obtain ⟨p, vs, rfl, h1, h2⟩ := items_of hR d1 e
      exact ⟨_, call_list_of, p, vs, rfl, h1, fun l hl => hp.newLst hR h2 hl⟩
  · exact hp.elim
def bls? : List T → Option (List Bool)
  | [] => some []
  | .bl b :: r => (bls? r).map (b :: ·)
  | _ => none
def ints? : List T → Option (List Int)
  | [] => some []
  | .int b :: r => (ints? r).map (b :: ·)
  | _ => none
def strs? : List T → Option (List Str)
  | [] => some []
  | .str b :: r => (strs? r).map (b :: ·)
  | _ => none
theorem bls_of {K : PySem.W.Frag} {mg : Str → Option Value} {L : List Addr} {H : Hp} : ∀ {vs : List V} {ts : List T} {bs : List Bool}, Ds K mg L H vs ts → bls? ts = some bs → vs = bs.map V.bl
  | _, _, _, .nil, h => by simp [bls?] at h; subst h; rfl
  | _, _, _, .cons (t := .bl b) d r, h => by
    simp only [bls?] at h
    obtain ⟨cs, e, rfl⟩ := Option.map_eq_some_iff.mp h
    rw [bls_of r e, d.blE]; rfl
theorem ints_of {K : PySem.W.Frag} {mg : Str → Option Value} {L : List Addr} {H : Hp} : ∀ {vs : List V} {ts : List T} {bs : List Int}, Ds K mg L H vs ts → ints? ts = some bs → vs = bs.map V.int
  | _, _, _, .nil, h => by simp [ints?] at h; subst h; rfl
  | _, _, _, .cons (t := .int b) d r, h => by
    simp only [ints?] at h
    obtain ⟨cs, e, rfl⟩ := Option.map_eq_some_iff.mp h
    rw [ints_of r e, d.intE]; rfl
theorem strs_of {K : PySem.W.Frag} {mg : Str → Option Value} {L : List Addr} {H : Hp} : ∀ {vs : List V} {ts : List T} {bs : List Str}, Ds K mg L H vs ts → strs? ts = some bs → vs = bs.map V.str
  | _, _, _, .nil, h => by simp [strs?] at h; subst h; rfl
  | _, _, _, .cons (t := .str b) d r, h => by
    simp only [strs?] at h
    obtain ⟨cs, e, rfl⟩ := Option.map_eq_some_iff.mp h
    rw [strs_of r e, d.strE]; rfl
def hAll : List T → Sto → OV := fun ts s => (bls? ts).map fun bs => (.bl (bs.all id), s)
def hAny : List T → Sto → OV := fun ts s => (bls? ts).map fun bs => (.bl (bs.any id), s)
def hSum : List T → Sto → OV := fun ts s => (ints? ts).map fun bs => (.int bs.sum, s)
def hLen : List T → Sto → OV := fun ts s => some (.int ts.length, s)
theorem c_all (hc : X.calm = true) : CallTmp X (.builtin "all") hAll := ⟨_, cr_all hc, fun p L s H vs ts Q hR hl np hz d hp => by
  unfold hAll at hp
  cases e : bls? ts with
  | none => rw [e] at hp; exact hp.elim
  | some bs =>
    rw [e] at hp
    have ev := bls_of d e
    subst ev
    exact ⟨p, bs, rfl, .inl (.inl hl), hp.here hR (.bl _)⟩⟩
theorem c_any (hc : X.calm = true) : CallTmp X (.builtin "any") hAny := ⟨_, cr_any hc, fun p L s H vs ts Q hR hl np hz d hp => by
  unfold hAny at hp
  cases e : bls? ts with
  | none => rw [e] at hp; exact hp.elim
  | some bs =>
    rw [e] at hp
    have ev := bls_of d e
    subst ev
    exact ⟨p, bs, rfl, .inl (.inl hl), hp.here hR (.bl _)⟩⟩
theorem c_sum (hc : X.calm = true) : CallTmp X (.builtin "sum") hSum := ⟨_, cr_sum hc, fun p L s H vs ts Q hR hl np hz d hp => by
  unfold hSum at hp
  cases e : ints? ts with
  | none => rw [e] at hp; exact hp.elim
  | some bs =>
    rw [e] at hp
    have ev := ints_of d e
    subst ev
    exact ⟨p, bs, rfl, .inl (.inl hl), hp.here hR (.int _)⟩⟩
theorem c_len : CallTmp X (.builtin "len") hLen := ⟨_, call_len_seq, fun p L s H vs ts Q hR hl np hz d hp => ⟨p, vs, rfl, .inl (.inl (.inl hl)), by rw [d.length]; exact hp.here hR (.int _)⟩⟩
/-- the greatest, the least of some ints -/
def maxL : List Int → Option Int
  | [] => none
  | a :: r => some (r.foldl max a)
def minL : List Int → Option Int
  | [] => none
  | a :: r => some (r.foldl min a)
def hMax : List T → Sto → OV := fun ts s => (match ints? ts with | some ns => (maxL ns).map fun m => (.int m, s) | none => none)
def hMin : List T → Sto → OV := fun ts s => (match ints? ts with | some ns => (minL ns).map fun m => (.int m, s) | none => none)
theorem foldl_max (a : Int) (r : List Int) : r.foldl max a ∈ a :: r ∧ ∀ y ∈ a :: r, y ≤ r.foldl max a := by
  induction r generalizing a with
  | nil => simp
  | cons b r ih =>
    simp only [List.foldl_cons]
    obtain ⟨h1, h2⟩ := ih (max a b)
    refine ⟨?_, fun y hy => ?_⟩
    · rcases List.mem_cons.mp h1 with h | h
      · rw [h]
        by_cases hab : a ≤ b
        · rw [Int.max_eq_right hab]; simp
        · rw [Int.max_eq_left (by omega)]; simp
      · exact List.mem_cons_of_mem _ (List.mem_cons_of_mem _ h)
    · have h3 := h2 (max a b) List.mem_cons_self
      rcases List.mem_cons.mp hy with rfl | hy
      · omega
      · rcases List.mem_cons.mp hy with rfl | hy
        · omega
        · exact h2 y (List.mem_cons_of_mem _ hy)
theorem foldl_min (a : Int) (r : List Int) : r.foldl min a ∈ a :: r ∧ ∀ y ∈ a :: r, r.foldl min a ≤ y := by
  induction r generalizing a with
  | nil => simp
  | cons b r ih =>
    simp only [List.foldl_cons]
    obtain ⟨h1, h2⟩ := ih (min a b)
    refine ⟨?_, fun y hy => ?_⟩
    · rcases List.mem_cons.mp h1 with h | h
      · rw [h]
        by_cases hab : a ≤ b
        · rw [Int.min_eq_left hab]; simp
        · rw [Int.min_eq_right (by omega)]; simp
      · exact List.mem_cons_of_mem _ (List.mem_cons_of_mem _ h)
    · have h3 := h2 (min a b) List.mem_cons_self
      rcases List.mem_cons.mp hy with rfl | hy
      · omega
      · rcases List.mem_cons.mp hy with rfl | hy
        · omega
        · exact h2 y (List.mem_cons_of_mem _ hy)
theorem c_max (hc : X.calm = true) : CallTmp X (.builtin "max") hMax := ⟨_, cr_max hc, fun p L s H vs ts Q hR hl np hz d hp => by
  unfold hMax at hp
  split at hp
  · rename_i ns e
    have ev := ints_of d e
    subst ev
    match ns, hp with
    | [], hp => exact hp.elim
    | a :: r, hp =>
      obtain ⟨h1, h2⟩ := foldl_max a r
      refine ⟨p, a :: r, rfl, .inl (.inl hl), Nat.succ_pos _, fun m hm hy => ?_⟩
      have em : m = r.foldl max a := by have := hy _ h1; have := h2 _ hm; omega
      rw [em]; exact hp.here hR (.int _)
  · exact hp.elim⟩
theorem c_min (hc : X.calm = true) : CallTmp X (.builtin "min") hMin := ⟨_, cr_min hc, fun p L s H vs ts Q hR hl np hz d hp => by
  unfold hMin at hp
  split at hp
  · rename_i ns e
    have ev := ints_of d e
    subst ev
    match ns, hp with
    | [], hp => exact hp.elim
    | a :: r, hp =>
      obtain ⟨h1, h2⟩ := foldl_min a r
      refine ⟨p, a :: r, rfl, .inl (.inl hl), Nat.succ_pos _, fun m hm hy => ?_⟩
      have em : m = r.foldl min a := by have := hy _ h1; have := h2 _ hm; omega
      rw [em]; exact hp.here hR (.int _)
  · exact hp.elim⟩
end
end Fx

set_option maxRecDepth 100000
set_option maxHeartbeats 2000000
/-! Fx: subscripts, slices, stores, dicts, methods of built-in types, texts. -/
namespace Fx
open PySem L2 PyProof.Rows

/-! ### dicts -/
def dGet : List (Key × T) → Key → Option T
  | [], _ => none
  | (q, t) :: r, k => if q = k then some t else dGet r k
def dHas (kvs : List (Key × T)) (k : Key) : Bool := (dGet kvs k).isSome
def dPut (kvs : List (Key × T)) (k : Key) (v : T) : List (Key × T) :=
  if dHas kvs k = true then kvs.map (fun kv => if kv.1 = k then (kv.1, v) else kv) else kvs ++ [(k, v)]
def keyT : T → Option Key
  | .int i => some (.inl i)
  | .str x => some (.inr x)
  | _ => none
section
variable {K : PySem.W.Frag} {mg : Str → Option Value} {L : List Addr} {H : Hp} {s : Sto}
theorem Kvs.get {kvs' : List (Key × V)} {kvs : List (Key × T)} (q : Kvs K mg L H kvs' kvs) (k : Key) : (valV kvs' k = none ∧ dGet kvs k = none) ∨ ∃ v t, valV kvs' k = some v ∧ dGet kvs k = some t ∧ D K mg L H v t := by
  obtain ⟨h1, h2⟩ := q
  induction kvs generalizing kvs' with
  | nil =>
    cases kvs' with
    | nil => exact .inl ⟨rfl, rfl⟩
    | cons p r => simp at h1
  | cons p r ih =>
    cases kvs' with
    | nil => simp at h1
    | cons p' r' =>
      obtain ⟨k1, t1⟩ := p
      obtain ⟨k2, v2⟩ := p'
      simp only [List.map_cons, List.cons.injEq] at h1 h2
      obtain ⟨rfl, h1⟩ := h1
      cases h2 with
      | cons d1 d2 =>
        by_cases hk : k2 = k
        · refine .inr ⟨v2, t1, ?_, ?_, d1⟩
          · simp [valV, hk]
          · simp [dGet, hk]
        · have e1 : valV ((k2, v2) :: r') k = valV r' k := by simp [valV, hk]
          have e2 : dGet ((k2, t1) :: r) k = dGet r k := by simp [dGet, hk]
          rw [e1, e2]
          exact ih h1 d2
theorem Kvs.put {kvs' : List (Key × V)} {kvs : List (Key × T)} (q : Kvs K mg L H kvs' kvs) {v : V} {t : T} (d : D K mg L H v t) (k : Key) : Kvs K mg L H (putK kvs' k v) (dPut kvs k t) := by
  have hany : (kvs'.any fun kv => decide (kv.1 = k)) = dHas kvs k := by
    rw [valV_any]
    unfold dHas
    rcases q.get k with ⟨e1, e2⟩ | ⟨_, _, e1, e2, _⟩ <;> rw [e1, e2] <;> rfl
  unfold putK dPut
  rw [hany]
  obtain ⟨h1, h2⟩ := q
  split
  · next hh =>
    clear hany hh
    induction kvs generalizing kvs' with
    | nil =>
      cases kvs' with
      | nil => exact ⟨rfl, .nil⟩
      | cons p r => simp at h1
    | cons p r ih =>
      cases kvs' with
      | nil => simp at h1
      | cons p' r' =>
        obtain ⟨k1, t1⟩ := p
        obtain ⟨k2, v2⟩ := p'
        simp only [List.map_cons, List.cons.injEq] at h1 h2
        obtain ⟨rfl, h1⟩ := h1
        cases h2 with
        | cons d1 d2 =>
          obtain ⟨i1, i2⟩ := ih h1 d2
          refine ⟨?_, ?_⟩
          · simp only [List.map_cons]
            rw [i1]
            by_cases hk : k2 = k <;> simp [hk]
          · simp only [List.map_cons]
            by_cases hk : k2 = k
            · simp only [hk, if_true]; exact .cons d i2
            · simp only [hk, if_false]; exact .cons d1 i2
  · exact ⟨by simp [h1], by simp only [List.map_append, List.map_cons, List.map_nil]; exact h2.app (.cons d .nil)⟩
theorem keyT_of {v : V} {t : T} {k : Key} (d : D K mg L H v t) (h : keyT t = some k) : v = kV k := by
  cases t <;> simp [keyT] at h <;> subst h
  · rw [d.intE]; rfl
  · rw [d.strE]; rfl
end

section
variable {X : Cx} {W : WX} {N : List Str} {sc : Scope} {pos : Pos} {a b e o i : Expr} {fa fb fv : Ev} {fl : Lv} {es : List Expr}
/-! ### subscripts -/
def atT (ts : List T) (i : Int) : Option T := (ixN ts.length i).bind fun j => ts[j]?
def oIx : T → T → Sto → OV := fun x y s => match x with
  | .str z => (match y with
    | .int i => if z.length ≤ sizeLine then (atI z.cps.toList i).map fun c => (.str ⟨#[c]⟩, s) else none
    | _ => none)
  | .loc n => (match s.get n with
    | some (.lst ts) => (match y with | .int i => (atT ts i).map fun t => (t, s) | _ => none)
    | some (.dct kvs) => (match keyT y with | some k => (dGet kvs k).map fun t => (t, s) | none => none)
    | _ => none)
  | .tup ts => (match y with | .int i => (atT ts i).map fun t => (t, s) | _ => none)
  | .frz ts => (match y with | .int i => (atT ts i).map fun t => (t, s) | _ => none)
  | _ => none
theorem Ds.at {K : PySem.W.Frag} {mg : Str → Option Value} {L : List Addr} {H : Hp} {vs : List V} {ts : List T} {i : Int} {t : T} (d : Ds K mg L H vs ts) (h : atT ts i = some t) : ∃ v, atI vs i = some v ∧ D K mg L H v t := by
  unfold atT at h
  obtain ⟨j, h1, h2⟩ := Option.bind_eq_some_iff.mp h
  obtain ⟨v, h3, h4⟩ := d.get h2
  exact ⟨v, by unfold atI; rw [d.length, h1]; exact h3, h4⟩
theorem ix_dict (hu : X.A.units + 1 < cLine) : IxR X (fun x y H Q => ∃ a v, x = .ref a ∧ DGet H a y (some v) ∧ Q v H) := by
  intro value slice pins s σ H x y v u Q I rx ry h hs
  obtain ⟨a, w, rfl, g, q⟩ := h
  obtain rfl : v = Value.ref a := rx
  exact tail_any (ops := [.ref a, u]) (dict_typeIs I g) PySem.F.slot_dict_getitem.lookup (d_getItem hu I g ry fun w' s3 I3 rw' => ⟨w, H, I3, rw', q⟩) hs
theorem r_ix (hu : X.A.units + 1 < cLine) (ha : FE X W a fa) (hb : FE X W b fb) (hs : PlainIx b) : FE X W (.Subscript a b pos) (eBin oIx fa fb) := by
  refine PEw (pe_ix (ix_seq.or (ix_dict hu)) ha hb hs) fun σ H Q ⟨L, r, s, hR, hE, hp⟩ => ?_
  refine lE_bnd hR hE hp fun t1 s1 v1 L1 H1 x1 R1 E1 d1 p1 => ?_
  refine lE_bnd R1 E1 p1 fun t2 s2 v2 L2 H2 x2 R2 E2 d2 p2 => ?_
  have p3 := PostV.of p2
  have d1 := d1.mono x2
  have seq : ∀ (ts : List T) (j : Int) (p : Addr) (vs : List V), v1 = .ref p → t2 = .int j → (SqL X.K H2 p vs ∨ SqT X.K H2 p vs) → Ds X.K X.mg L2 H2 vs ts → PostV X.K X.mg L2 H2 Q ((atT ts j).map fun t => (t, s2)) →
      (rIx X.K v1 v2 H2 Q ∨ ∃ a v, v1 = .ref a ∧ DGet H2 a v2 (some v) ∧ Q v H2) := fun ts j p vs e1 e2 hq hd hp => by
    subst e1; subst e2
    cases d2.intE
    cases e : atT ts j with
    | none => rw [e] at hp; exact hp.elim
    | some t =>
      rw [e] at hp
      obtain ⟨w, h1, h2⟩ := hd.at e
      rcases hq with hq | hq
      · exact .inl (.inl ⟨p, vs, j, w, rfl, rfl, hq, h1, hp.here R2 h2⟩)
      · exact .inl (.inr (.inl ⟨p, vs, j, w, rfl, rfl, hq, h1, hp.here R2 h2⟩))
  unfold oIx at p3
  cases t1 with
  | str z =>
    cases t2 with
    | int j =>
      simp only at p3
      split at p3
      · next hz =>
        cases d1.strE; cases d2.intE
        cases e : atI z.cps.toList j with
        | none => rw [e] at p3; exact p3.elim
        | some c => rw [e] at p3; exact .inl (.inr (.inr ⟨z, j, c, rfl, rfl, hz, e, p3.here R2 (.str _)⟩))
      · exact p3.elim
    | _ => exact p3.elim
  | loc n =>
    simp only at p3
    split at p3
    · next ts e0 =>
      split at p3
      · obtain ⟨p, vs, rfl, _, h1, h2⟩ := D.lstE R2 d1 e0
        exact seq ts _ p vs rfl rfl (.inl (.inl (.inl h1))) h2 p3
      · exact p3.elim
    · next kvs e0 =>
      split at p3
      · next k ek =>
        obtain ⟨p, rfl, e1⟩ := d1.locE
        obtain ⟨q, h1, kvs', h2, h3⟩ := R2.get e0
        rw [e1] at h1; cases h1
        rcases h3.get k with ⟨_, e2⟩ | ⟨w, t, e2, e3, dd⟩
        · rw [e2] at p3; exact p3.elim
        · rw [e3] at p3
          refine .inr ⟨p, w, rfl, ?_, p3.here R2 dd⟩
          rw [keyT_of d2 ek]
          have := DGet.k (k := k) h2
          rw [e2] at this
          exact this
      · exact p3.elim
    · exact p3.elim
  | tup ts =>
    cases t2 with
    | int j =>
      obtain ⟨p, vs, rfl, h1, h2⟩ := d1.tupE
      exact seq ts _ p vs rfl rfl (.inr h1.sq) h2 p3
    | _ => exact p3.elim
  | frz ts =>
    cases t2 with
    | int j =>
      obtain ⟨p, vs, rfl, h1, h2⟩ := d1.frzE
      exact seq ts _ p vs rfl rfl (.inl h1.sq) h2 p3
    | _ => exact p3.elim
  | _ => exact p3.elim
/-- [a, b, ..][i]: a list that nobody else sees -/
def eIxL (l : Lv) (i : Ev) : Ev := fun r s => (l r s).bnd fun ts s => (i r s).bnd fun y s => match y with
  | .int j => (match atT ts j with | some t => .ok t s | none => .bad)
  | _ => .bad
theorem r_ixL (ha : FC X W a fl) (hb : FE X W b fb) (hs : PlainIx b) : FE X W (.Subscript a b pos) (eIxL fl fb) := by
  obtain ⟨t, h1, h2⟩ := ha
  refine PEw (pe_ix ix_list h1 hb hs) fun σ H Q ⟨L, r, s, hR, hE, hp⟩ => ?_
  refine h2 σ H _ L r s hR hE ?_
  unfold eIxL at hp
  cases e : fl r s with
  | exc x s1 => rw [e] at hp; exact hp
  | bad => rw [e] at hp; exact hp
  | ok ts s1 =>
    rw [e] at hp
    intro p L' H' vs x1 R1 hl np hn hz d1
    refine lE_bnd R1 (hE.mono x1) (PostE.ex hp x1) fun t2 s2 v2 L2 H2 x2 R2 E2 d2 p2 => ?_
    cases t2 with
    | int j =>
      simp only at p2
      cases e2 : atT ts j with
      | none => rw [e2] at p2; exact p2.elim
      | some t =>
        rw [e2] at p2
        obtain ⟨w, h3, h4⟩ := (d1.mono x2).at e2
        cases d2.intE
        exact ⟨p, vs, j, w, rfl, rfl, .inl (.inl (x2.frm p _ hl np)), h3, p2 w L2 H2 Ex.refl R2 h4⟩
    | _ => exact p2.elim

/-! ### slices -/
abbrev sIx := HT.sIx
def cutT (ts : List T) (lo hi : Option Int) : List T := (ts.drop (sIx ts.length 0 lo)).take (sIx ts.length ts.length hi - sIx ts.length 0 lo)
def slT (x : T) (lo hi : Option Int) (s : Sto) : OV := match x with
  | .tup ts => some (.tup (cutT ts lo hi), s)
  | .frz ts => some (.loc s.len, s.add (.lst (cutT ts lo hi)))
  | .loc n => (match s.get n with
    | some (.lst ts) => some (.loc s.len, s.add (.lst (cutT ts lo hi)))
    | _ => none)
  | .str z => if z.length ≤ sizeLine then some (.str (cutS z lo hi), s) else none
  | _ => none
/-- a part of a slice -/
abbrev Pv := Env → Sto → Option (Option Int × Sto)
def pNone : Pv := fun _ s => some (none, s)
def pSome (f : Ev) : Pv := fun r s => match f r s with | .ok (.int i) s => some (some i, s) | _ => none
def eSl (a : Ev) (lo hi : Pv) : Ev := fun r s => (a r s).bnd fun x s => match lo r s with
  | some (l, s) => (match hi r s with
    | some (h, s) => vOut (slT x l h s)
    | none => .bad)
  | none => .bad
def lP (K : PySem.W.Frag) (mg : Str → Option Value) (f : Pv) : TO := fun σ H Q => ∃ L r s, Rl K mg L s H ∧ Er K mg L H σ r ∧ match f r s with
  | some (o, s') => ∀ L' H', Ex L H L' H' → Rl K mg L' s' H' → Q o H'
  | none => False
abbrev FP (X : Cx) (e : Option Expr) (f : Pv) : Prop := PO X e (lP X.K X.mg f)
theorem POw {e : Option Expr} {t t' : TO} (h : PO X e t) (w : ∀ σ H Q, t' σ H Q → t σ H Q) : PO X e t' := ⟨fun p s σ H Q I q => h.run p s σ H Q I (w σ H Q q)⟩
theorem p_none : FP X none pNone := POw po_none fun σ H Q ⟨L, r, s, hR, hE, hp⟩ => hp L H Ex.refl hR
theorem p_some (ha : FE X W a fa) : FP X (some a) (pSome fa) := POw (po_some ha) fun σ H Q ⟨L, r, s, hR, hE, hp⟩ => by
  refine ⟨L, r, s, hR, hE, ?_⟩
  unfold pSome at hp
  cases e : fa r s with
  | ok t s1 =>
    rw [e] at hp
    cases t with
    | int i =>
      intro v L' H' x1 R1 d1
      exact ⟨i, d1.intE, hp L' H' x1 R1⟩
    | _ => exact hp.elim
  | exc x s1 => rw [e] at hp; exact hp.elim
  | bad => rw [e] at hp; exact hp.elim
theorem cutT_of {K : PySem.W.Frag} {mg : Str → Option Value} {L : List Addr} {H : Hp} {vs : List V} {ts : List T} {lo hi : Option Int} (d : Ds K mg L H vs ts) : Ds K mg L H (cutV vs lo hi) (cutT ts lo hi) := by
  unfold cutV cutT
  rw [d.length]
  exact (d.drop _).take _
theorem cutV_whole {vs : List V} {lo hi : Option Int} (h : sIx vs.length 0 lo = 0 ∧ sIx vs.length vs.length hi = vs.length) : cutV vs lo hi = vs := by
  simp only [sIx] at h
  unfold cutV
  rw [h.1, h.2]; simp
variable {lo hi : Option Expr} {fl' fh : Pv} {p2 : Pos}
theorem r_slice (ha : FE X W a fa) (hl : FP X lo fl') (hh : FP X hi fh) : FE X W (.Subscript a (.Slice lo hi none p2) pos) (eSl fa fl' fh) := by
  refine PEw (pe_slice ((sl_tupA.or sl_list).or sl_str) ha hl hh) fun σ H Q ⟨L, r, s, hR, hE, hp⟩ => ?_
  refine lE_bnd hR hE hp fun t1 s1 v1 L1 H1 x1 R1 E1 d1 p1 => ⟨L1, r, s1, R1, E1, ?_⟩
  cases e1 : fl' r s1 with
  | none => rw [e1] at p1; exact p1.elim
  | some q1 =>
    obtain ⟨l, s2⟩ := q1
    simp only [e1] at p1
    refine fun L2 H2 x2 R2 => ⟨L2, r, s2, R2, E1.mono x2, ?_⟩
    cases e2 : fh r s2 with
    | none => rw [e2] at p1; exact p1.elim
    | some q2 =>
      obtain ⟨h, s3⟩ := q2
      simp only [e2] at p1
      intro L3 H3 x3 R3
      have p3 := PostV.of (PostE.ex p1 (x2.trans x3))
      have d3 := d1.mono (x2.trans x3)
      unfold slT at p3
      split at p3
      · rename_i ts
        obtain ⟨p, vs, rfl, h1, h2⟩ := d3.tupE
        refine .inl (.inl ⟨p, vs, rfl, h1.sq, fun hw => ?_, fun hw q hq => p3.newTup R3 (cutT_of h2) hq⟩)
        exact p3.here R3 (.tup h1 (by
          have hc := cutT_of (lo := l) (hi := h) h2
          rw [cutV_whole hw] at hc
          exact hc))
      · rename_i ts
        obtain ⟨p, vs, rfl, h1, h2⟩ := d3.frzE
        exact .inl (.inr ⟨p, vs, rfl, h1.sq, fun q hq => p3.newLst R3 (cutT_of h2) hq⟩)
      · split at p3
        · rename_i ts e0
          obtain ⟨p, vs, rfl, _, h1, h2⟩ := D.lstE R3 d3 e0
          exact .inl (.inr ⟨p, vs, rfl, .inl (.inl h1), fun q hq => p3.newLst R3 (cutT_of h2) hq⟩)
        · exact p3.elim
      · split at p3
        · rename_i z hz
          cases d3.strE
          exact .inr ⟨z, rfl, hz, p3.here R3 (.str _)⟩
        · exact p3.elim
      · exact p3.elim
end
end Fx

set_option maxRecDepth 100000
set_option maxHeartbeats 2000000
/-! Fx: stores into lists and dicts, dict displays, methods of built-in types. -/
namespace Fx
open PySem L2 PyProof.Rows

/-! ### stores -/
def setT (x i v : T) (s : Sto) : Option Sto := match x with
  | .loc n => (match s.get n with
    | some (.lst ts) => (match i with
      | .int k => (match ixN ts.length k with | some j => some (s.put n (.lst (ts.set j v))) | none => none)
      | _ => none)
    | some (.dct kvs) => (match keyT i with
      | some k => if kvs.length < sizeLine then some (s.put n (.dct (dPut kvs k v))) else none
      | none => none)
    | _ => none)
  | _ => none
def gSubF (o i : Ev) : Gv := fun t r s => match o r s with
  | .ok x s => (match i r s with
    | .ok y s => (match setT x y t s with | some s => .nx r s | none => .bad)
    | _ => .bad)
  | _ => .bad
section
variable {X : Cx} {W : WX} {N : List Str} {sc : Scope} {pos : Pos} {a b e o i : Expr} {fa fb fv : Ev} {fl : Lv} {es : List Expr} {ws : List Nat}
/-- what a store wants -/
def rSetA : TSet := fun o i v H Q => rSetL o i v H Q ∨ rSetD o i v H Q
theorem set_any (hu : X.A.units + 1 < cLine) : PSet X rSetA := by
  intro pins s σ H o i v ov iv u Q I ro ri rv h
  rcases h with h | h
  · exact set_list pins s σ H o i v ov iv u Q I ro ri rv h
  · exact set_dict hu pins s σ H o i v ov iv u Q I ro ri rv h
theorem setT_of {K : PySem.W.Frag} {mg : Str → Option Value} {L : List Addr} {H : Hp} {s s' : Sto} {x i v : T} {vx vi vv : V} {Q : Hp → Prop} (R : Rl K mg L s H) (dx : D K mg L H vx x) (di : D K mg L H vi i) (dv : D K mg L H vv v) (h : setT x i v s = some s')
    (q : ∀ H', Ex L H L H' → Rl K mg L s' H' → Q H') : rSetA vx vi vv H Q := by
  cases x with
  | loc n =>
    simp only [setT] at h
    split at h
    · next ts e0 =>
      split at h
      · next k =>
        split at h
        · next j ej =>
          cases h
          obtain ⟨p, vs, rfl, h1, h2, h3⟩ := D.lstE R dx e0
          cases di.intE
          have ex := R.exPut (ho := .lst (vs.set j vv)) (List.mem_of_getElem? h1)
          exact .inl ⟨p, vs, k, j, rfl, rfl, h2, by rw [h3.length]; exact ej, q _ ex (R.put h1 ⟨_, upd_same, (h3.set j dv).mono ex⟩)⟩
        · cases h
      · cases h
    · next kvs e0 =>
      split at h
      · next k ek =>
        split at h
        · next hz =>
          cases h
          obtain ⟨p, rfl, e1⟩ := dx.locE
          obtain ⟨p', h1, kvs', h2, h3⟩ := R.get e0
          rw [e1] at h1; cases h1
          have hl : kvs'.length = kvs.length := by
            have := h3.2.length
            simpa using this
          have ex := R.exPut (ho := .dK (putK kvs' k vv)) (List.mem_of_getElem? e1)
          have hk := h3.put dv k
          refine .inr ⟨p, _, rfl, by rw [keyT_of di ek]; exact DPut.k h2 (by omega), q _ ex (R.put e1 ⟨_, upd_same, hk.1, hk.2.mono ex⟩)⟩
        · cases h
      · cases h
    · cases h
  | _ => simp [setT] at h
theorem g_sub (hu : X.A.units + 1 < cLine) (ha : FE X W a fa) (hb : FE X W b fb)
    (hs : ∀ v, assign (.Subscript a b pos) X.env v = (do
      let ov ← holding [v] (eval a X.env)
      let iv ← holding [v, ov] (eval b X.env)
      standAt pos
      holding [v, ov, iv] (setItem ov iv v)
      release [v, ov, iv] []) := by intro _; rfl) : FG X W ws (.Subscript a b pos) (gSubF fa fb) := by
  refine PGw (pg_sub ha hb (set_any hu) hs) fun v σ H Q ⟨L, r, s, t, hR, hE, hd, hp⟩ => ?_
  unfold gSubF at hp
  refine ⟨L, r, s, hR, hE, ?_⟩
  cases e1 : fa r s with
  | ok x s1 =>
    simp only [e1] at hp
    intro vx L1 H1 x1 R1 d1
    refine ⟨L1, r, s1, R1, hE.mono x1, ?_⟩
    cases e2 : fb r s1 with
    | ok y s2 =>
      simp only [e2] at hp
      intro vy L2 H2 x2 R2 d2
      cases e3 : setT x y t s2 with
      | some s3 =>
        rw [e3] at hp
        refine setT_of R2 (d1.mono x2) d2 (hd.mono (x1.trans x2)) e3 fun H3 x3 R3 => ?_
        exact hp σ L2 H3 ((x1.trans x2).trans x3) R3 (hE.mono ((x1.trans x2).trans x3)) rfl
      | none => rw [e3] at hp; exact hp.elim
    | exc x s2 => simp only [e2] at hp; exact hp.elim
    | bad => simp only [e2] at hp; exact hp.elim
  | exc x s1 => simp only [e1] at hp; exact hp.elim
  | bad => simp only [e1] at hp; exact hp.elim

theorem gSubF_ok : GOk (gSubF fa fb) := fun t r s => by
  unfold gSubF
  cases fa r s with
  | ok x s1 =>
    simp only
    cases fb r s1 with
    | ok y s2 =>
      simp only
      cases setT x y t s2 <;> rfl
    | _ => rfl
  | _ => rfl

/-! ### dict displays -/
/-- keys and values, one after the other -/
def lKv : List (Ev × Ev) → Env → Sto → Option (List (Key × T) × Sto)
  | [], _, s => some ([], s)
  | (k, v) :: q, r, s => match k r s with
    | .ok tk s => (match v r s with
      | .ok tv s => (match lKv q r s with
        | some (kvs, s) => (match keyT tk with | some key => some ((key, tv) :: kvs, s) | none => none)
        | none => none)
      | _ => none)
    | _ => none
def dMerge (kvs more : List (Key × T)) : List (Key × T) := more.foldl (fun acc kv => dPut acc kv.1 kv.2) kvs
def eDct (l : List (Ev × Ev)) : Ev := fun r s => match lKv l r s with
  | some (kvs, s) => if kvs.length ≤ 15 then .ok (.loc s.len) (s.add (.dct (dMerge [] kvs))) else .bad
  | none => .bad
theorem Kvs.merge {K : PySem.W.Frag} {mg : Str → Option Value} {L : List Addr} {H : Hp} : ∀ {mv : List (Key × V)} {mt : List (Key × T)} {kv : List (Key × V)} {kt : List (Key × T)}, Kvs K mg L H mv mt → Kvs K mg L H kv kt → Kvs K mg L H (mergeK kv mv) (dMerge kt mt) := by
  intro mv mt
  induction mt generalizing mv with
  | nil =>
    intro kv kt h1 h2
    obtain ⟨h1, h3⟩ := h1
    cases mv with
    | nil => exact h2
    | cons p r => simp at h1
  | cons p r ih =>
    intro kv kt h1 h2
    obtain ⟨h1, h3⟩ := h1
    cases mv with
    | nil => simp at h1
    | cons p' r' =>
      obtain ⟨k1, t1⟩ := p
      obtain ⟨k2, v2⟩ := p'
      simp only [List.map_cons, List.cons.injEq] at h1 h3
      obtain ⟨rfl, h1⟩ := h1
      cases h3 with
      | cons d1 d2 =>
        have h5 := ih (mv := r') ⟨h1, d2⟩ (h2.put d1 k2)
        exact h5
inductive FKv (X : Cx) (W : WX) (pos : Pos) : List (Option Expr) → List Expr → List (Ev × Ev) → Prop
  | nil : FKv X W pos [] [] []
  | cons {k v : Expr} {ks : List (Option Expr)} {vs : List Expr} {fk fv : Ev} {l : List (Ev × Ev)} : FE X W k fk → FE X W v fv → FKv X W pos ks vs l → FKv X W pos (some k :: ks) (v :: vs) ((fk, fv) :: l)
theorem FKv.pps {ks : List (Option Expr)} {vs : List Expr} {l : List (Ev × Ev)} (h : FKv X W pos ks vs l) : PPs X pos ks vs (l.map fun p => (lE X.K X.mg W p.1, lE X.K X.mg W p.2)) := by
  induction h with
  | nil => exact pps_nil
  | cons h1 h2 _ ih => exact pps_cons h1 h2 ih
theorem lKv_of {σ : L2.St} : ∀ {l : List (Ev × Ev)} {L : List Addr} {H : Hp} {r : Env} {s s' : Sto} {kvs : List (Key × T)} {Q : List (V × V) → Hp → Prop}, Rl X.K X.mg L s H → Er X.K X.mg L H σ r → lKv l r s = some (kvs, s') →
    (∀ kv' L' H', Ex L H L' H' → Rl X.K X.mg L' s' H' → Kvs X.K X.mg L' H' kv' kvs → Q (kv'.map fun kv => (kV kv.1, kv.2)) H') → tPairs (l.map fun p => (lE X.K X.mg W p.1, lE X.K X.mg W p.2)) σ H Q
  | [], L, H, r, s, s', kvs, Q, R, E, h, q => by cases h; exact q [] L H Ex.refl R ⟨rfl, .nil⟩
  | (fk, fv) :: l, L, H, r, s, s', kvs, Q, R, E, h, q => by
    simp only [lKv] at h
    show lE X.K X.mg W fk σ H _
    refine ⟨L, r, s, R, E, ?_⟩
    cases e1 : fk r s with
    | ok tk s1 =>
      simp only [e1] at h
      intro vk L1 H1 x1 R1 d1
      refine ⟨L1, r, s1, R1, E.mono x1, ?_⟩
      show PostE X.K X.mg W L1 H1 σ _ (fv r s1)
      cases e2 : fv r s1 with
      | ok tv s2 =>
        simp only [e2] at h
        intro vv L2 H2 x2 R2 d2
        cases e3 : lKv l r s2 with
        | none => rw [e3] at h; cases h
        | some q3 =>
          obtain ⟨kvs3, s3⟩ := q3
          simp only [e3] at h
          cases e4 : keyT tk with
          | none => rw [e4] at h; cases h
          | some key =>
            rw [e4] at h
            cases h
            refine lKv_of R2 (E.mono (x1.trans x2)) e3 fun kv' L3 H3 x3 R3 k3 => ?_
            rw [keyT_of d1 e4]
            exact q ((key, vv) :: kv') L3 H3 ((x1.trans x2).trans x3) R3 ⟨by simp [k3.1], .cons (d2.mono x3) k3.2⟩
      | exc x s2 => simp only [e2] at h; cases h
      | bad => simp only [e2] at h; cases h
    | exc x s1 => simp only [e1] at h; cases h
    | bad => simp only [e1] at h; cases h
theorem r_dct {ks : List (Option Expr)} {vs : List Expr} {l : List (Ev × Ev)} (h : FKv X W pos ks vs l) (hall : ks.all (·.isSome) = true := by rfl) (hl : ks.length = vs.length := by rfl) (h0 : ks ≠ [] := by simp) (h15 : ks.length ≤ 15 := by decide) : FE X W (.Dict ks vs pos) (eDct l) := by
  refine PEw (pe_disp h.pps hall hl h0 h15) fun σ H Q ⟨L, r, s, hR, hE, hp⟩ => ?_
  unfold eDct at hp
  cases e : lKv l r s with
  | none => rw [e] at hp; exact hp.elim
  | some q =>
    obtain ⟨kvs, s1⟩ := q
    simp only [e] at hp
    split at hp
    · next hz =>
      intro p hn
      have R0 := hR.laid (ho := .dK []) hn
      have x0 : Ex L H L (upd H p (.dK [])) := Ex.laid hn
      refine lKv_of R0 (hE.mono x0) e fun kv' L1 H1 x1 R1 k1 => ?_
      have hp0 : p ∉ L := hR.notIn hn
      have h1 : H1 p = some (.dK []) := x1.frm p _ upd_same hp0
      have hp1 : p ∉ L1 := fun m => by
        rcases x1.new p m with m | m
        · exact hp0 m
        · rw [upd_same] at m; cases m
      refine ⟨h1, kv', rfl, by have := k1.2.length; simp only [List.length_map] at this; omega, ?_⟩
      -- the dict stands apart: it is taken as a place once it is full
      have mD : ∀ {vs ts}, Ds X.K X.mg L1 H1 vs ts → Ds X.K X.mg L1 (upd H1 p (.dK (mergeK [] kv'))) vs ts := fun {vs ts} r => r.mono' (fun _ _ h => h)
        (fun a vs h => by rw [upd_ne (fun e => by rw [e, h1] at h; cases h)]; exact h) (fun a o u h => by rw [upd_ne (fun e => by rw [e, h1] at h; cases h)]; exact h)
      have R2 : Rl X.K X.mg L1 s1 (upd H1 p (.dK (mergeK [] kv'))) := by
        refine ⟨R1.len, R1.nd, R1.kp, fun i o e => ?_, R1.ref⟩
        obtain ⟨a, h1', h2⟩ := R1.obj i o e
        have ne : a ≠ p := fun e => hp1 (e ▸ List.mem_of_getElem? h1')
        refine ⟨a, h1', ?_⟩
        cases o with
        | lst ts => obtain ⟨vs, e1, q⟩ := h2; exact ⟨vs, (upd_ne ne).trans e1, mD q⟩
        | dct kvs => obtain ⟨vs, e1, q1, q2⟩ := h2; exact ⟨vs, (upd_ne ne).trans e1, q1, mD q2⟩
        | ins C fs => obtain ⟨Ca, dx, fs', e1, e2, q1, q2⟩ := h2; exact ⟨Ca, dx, fs', (upd_ne ne).trans e1, e2, q1, mD q2⟩
      have km := Kvs.merge (kv := []) (kt := []) k1 ⟨rfl, .nil⟩
      have x2 : Ex L H L1 (upd H1 p (.dK (mergeK [] kv'))) := Ex.aside (x0.trans x1) hn
      exact hp (.ref p) (L1 ++ [p]) _ (x2.adopt hn) (R2.adopt hp1 ⟨_, upd_same, km.1, mD km.2⟩) R2.addD
    · exact hp.elim

/-! ### methods of built-in types -/
def isTy (T0 : String) (x : T) (s : Sto) : Bool := match x with
  | .str _ => decide (T0 = "str")
  | .loc n => (match s.get n with
    | some (.lst _) => decide (T0 = "list")
    | some (.dct _) => decide (T0 = "dict")
    | _ => false)
  | .frz _ => decide (T0 = "list")
  | _ => false
/-- o.m(..) -/
def eM (T0 : String) (g : T → List T → Sto → OV) (a : Ev) (l : Lv) : Ev := fun r s => (a r s).bnd fun x s => if isTy T0 x s = true then (l r s).bnd fun ts s => vOut (g x ts s) else .bad
def MtF (X : Cx) (id : String) (g : T → List T → Sto → OV) : Prop := ∃ rr, MtR X id rr ∧ ∀ L s t ts x xs H Q, Rl X.K X.mg L s H → D X.K X.mg L H x t → Ds X.K X.mg L H xs ts → PostV X.K X.mg L H Q (g t ts s) → rr x xs H Q
theorem isTy_of {K : PySem.W.Frag} {mg : Str → Option Value} {L : List Addr} {s : Sto} {H : Hp} {x : V} {t : T} {T0 : String} (hR : Rl K mg L s H) (d : D K mg L H x t) (h : isTy T0 t s = true) : tyV K T0 x H := by
  cases t with
  | str z =>
    cases d
    have h1 : T0 = "str" := of_decide_eq_true h
    exact h1
  | frz ts =>
    obtain ⟨a, vs, rfl, h1, h2⟩ := d.frzE
    exact .inl ⟨of_decide_eq_true h, vs, h1.sq⟩
  | loc n =>
    simp only [isTy] at h
    split at h
    · next ts e0 =>
      obtain ⟨p, vs, rfl, h1, h2, h3⟩ := D.lstE hR d e0
      exact .inl ⟨of_decide_eq_true h, vs, .inl (.inl h2)⟩
    · next kvs e0 =>
      obtain ⟨p, rfl, e1⟩ := d.locE
      obtain ⟨p', h1, kvs', h2, h3⟩ := hR.get e0
      rw [e1] at h1; cases h1
      exact .inr (.inr (.inl ⟨of_decide_eq_true h, .inl ⟨_, h2⟩⟩))
    · simp at h
  | _ => simp [isTy] at h
variable {name : Str} {apos cpos : Pos} {T0 id : String} {g : T → List T → Sto → OV}
theorem r_m (pa : PlainAttrs T0) (slot : Slot T0 name id) (hty : typeOf (.builtin id) = pure (.type "method_descriptor")) (hm : MtF X id g) (ho : FE X W o fa) (ha : FL X W (e :: es) fl)
    (hbase : attributeBase o name X.env (eval o X.env) = eval o X.env := by rfl)
    (hfew : ((backTo cpos (starEach (e :: es) X.env)).all (fun x => !x.1) && (backToKw cpos (keywordEach [] X.env)).all (fun x => x.1.isSome)
      && decide ((e :: es).length + ([] : List Keyword).length + (if ([] : List Keyword).isEmpty then 0 else 1) < 30)) = true := by rfl)
    (hline : (apos.endLine == cpos.line) = true := by rfl) (hs : starEach (e :: es) X.env = (false, eval e X.env) :: starEach es X.env := by rfl) (hplain : (backTo cpos (starEach es X.env)).any (·.1) = false := by rfl) :
    FE X W (.Call (.Attribute o name apos) (e :: es) [] cpos) (eM T0 g fa fl) := by
  obtain ⟨rr, h1, h2⟩ := hm
  refine PEw (pe_bm pa slot hty h1 ho ha hbase hfew hline hs hplain) fun σ H Q ⟨L, r, s, hR, hE, hp⟩ => ?_
  refine lE_bnd hR hE hp fun t1 s1 v1 L1 H1 x1 R1 E1 d1 p1 => ?_
  split at p1
  · next hz =>
    refine ⟨isTy_of R1 d1 hz, ?_⟩
    exact lL_bnd R1 E1 p1 fun ts s2 vs L2 H2 x2 R2 E2 d2 p2 => h2 L2 s2 t1 ts v1 vs H2 Q R2 (d1.mono x2) d2 (PostV.of p2)
  · exact p1.elim
theorem r_m0 (pa : PlainAttrs T0) (slot : Slot T0 name id) (hty : typeOf (.builtin id) = pure (.type "method_descriptor")) (hm : MtF X id g) (ho : FE X W o fa)
    (hbase : attributeBase o name X.env (eval o X.env) = eval o X.env := by rfl) (hline : (apos.endLine == cpos.line) = true := by rfl) :
    FE X W (.Call (.Attribute o name apos) [] [] cpos) (eM T0 g fa lNil) := by
  obtain ⟨rr, h1, h2⟩ := hm
  refine PEw (pe_bm0 pa slot hty h1 ho hbase hline) fun σ H Q ⟨L, r, s, hR, hE, hp⟩ => ?_
  refine lE_bnd hR hE hp fun t1 s1 v1 L1 H1 x1 R1 E1 d1 p1 => ?_
  split at p1
  · next hz => exact ⟨isTy_of R1 d1 hz, h2 L1 s1 t1 [] v1 [] H1 Q R1 d1 .nil (PostV.of p1)⟩
  · exact p1.elim

def mAppend : T → List T → Sto → OV := fun x ts s => match x, ts with
  | .loc n, [t] => (match s.get n with | some (.lst a) => if a.length < sizeLine then some (.non, s.put n (.lst (a ++ [t]))) else none | _ => none)
  | _, _ => none
def mExtend : T → List T → Sto → OV := fun x ts s => match x, ts with
  | .loc n, [.loc m] => (match s.get n, s.get m with | some (.lst a), some (.lst b) => if a.length + b.length ≤ sizeLine then some (.non, s.put n (.lst (a ++ b))) else none | _, _ => none)
  | _, _ => none
def mPop : T → List T → Sto → OV := fun x ts s => match x, ts with
  | .loc n, [] => (match s.get n with | some (.lst a) => (match a[a.length - 1]? with | some t => some (t, s.put n (.lst a.dropLast)) | none => none) | _ => none)
  | .loc n, [.int i] => (match s.get n with
    | some (.lst a) => if decide (0 ≤ i ∧ i < 2 ^ 63) then (match a[i.toNat]? with | some t => some (t, s.put n (.lst (a.eraseIdx i.toNat))) | none => none) else none
    | _ => none)
  | _, _ => none
def mInsert : T → List T → Sto → OV := fun x ts s => match x, ts with
  | .loc n, [.int i, t] => (match s.get n with | some (.lst a) => if a.length < sizeLine ∧ 0 ≤ i ∧ i < 2 ^ 63 then some (.non, s.put n (.lst (a.take i.toNat ++ [t] ++ a.drop i.toNat))) else none | _ => none)
  | _, _ => none
theorem m_append : MtF X "list.append" mAppend := ⟨_, mt_append, fun L s t ts x xs H Q hR d1 d2 hp => by
  unfold mAppend at hp
  split at hp
  · next n t =>
    split at hp
    · next a e0 =>
      split at hp
      · next hz =>
        obtain ⟨p, vs, rfl, h1, h2, h3⟩ := D.lstE hR d1 e0
        obtain ⟨y, rfl, dy⟩ := one_of (X := X) d2
        exact ⟨p, vs, y, rfl, rfl, h2, by rw [h3.length]; exact hz, hp.putLst hR h1 (h3.app (.cons dy .nil)) .non⟩
      · exact hp.elim
    · exact hp.elim
  · exact hp.elim⟩
theorem m_extend : MtF X "list.extend" mExtend := ⟨_, mt_extend, fun L s t ts x xs H Q hR d1 d2 hp => by
  unfold mExtend at hp
  split at hp
  · next n m =>
    split at hp
    · next a b e0 e1 =>
      split at hp
      · next hz =>
        obtain ⟨p, vs, rfl, h1, h2, h3⟩ := D.lstE hR d1 e0
        obtain ⟨y, rfl, dy⟩ := one_of (X := X) d2
        obtain ⟨p', vs', rfl, h1', h2', h3'⟩ := D.lstE hR dy e1
        exact ⟨p, p', vs, vs', rfl, rfl, h2, h2', by rw [h3.length, h3'.length]; exact hz, hp.putLst hR h1 (h3.app h3') .non⟩
      · exact hp.elim
    · exact hp.elim
  · exact hp.elim⟩
theorem Ds.eraseIdx {K : PySem.W.Frag} {mg : Str → Option Value} {L : List Addr} {H : Hp} {vs : List V} {ts : List T} (d : Ds K mg L H vs ts) (n : Nat) : Ds K mg L H (vs.eraseIdx n) (ts.eraseIdx n) := by
  rw [List.eraseIdx_eq_take_drop_succ, List.eraseIdx_eq_take_drop_succ]
  exact (d.take n).app (d.drop (n + 1))
theorem Ds.dropLast {K : PySem.W.Frag} {mg : Str → Option Value} {L : List Addr} {H : Hp} {vs : List V} {ts : List T} (d : Ds K mg L H vs ts) : Ds K mg L H vs.dropLast ts.dropLast := by
  rw [List.dropLast_eq_take, List.dropLast_eq_take, d.length]
  exact d.take _
theorem m_pop : MtF X "list.pop" mPop := ⟨_, MtR.or mt_pop mt_popAt, fun L s t ts x xs H Q hR d1 d2 hp => by
  unfold mPop at hp
  split at hp
  · next n =>
    split at hp
    · next a e0 =>
      split at hp
      · next y ey =>
        obtain ⟨p, vs, rfl, h1, h2, h3⟩ := D.lstE hR d1 e0
        cases d2
        obtain ⟨w, h4, h5⟩ := h3.get ey
        exact .inl ⟨p, vs, w, rfl, rfl, h2, by rw [h3.length]; exact h4, hp.putLst hR h1 h3.dropLast h5⟩
      · exact hp.elim
    · exact hp.elim
  · next n i =>
    split at hp
    · next a e0 =>
      split at hp
      · next hz =>
        split at hp
        · next y ey =>
          obtain ⟨p, vs, rfl, h1, h2, h3⟩ := D.lstE hR d1 e0
          obtain ⟨z, rfl, dz⟩ := one_of (X := X) d2
          cases dz.intE
          obtain ⟨w, h4, h5⟩ := h3.get ey
          have hz := of_decide_eq_true hz
          have hlt : i.toNat < vs.length := (List.getElem?_eq_some_iff.mp h4).1
          refine .inr ⟨p, vs, i, i.toNat, w, rfl, rfl, h2, by omega, hz.2, ?_, h4, hp.putLst hR h1 (h3.eraseIdx _) h5⟩
          have hn : ¬ i < 0 := by omega
          have hb : (decide (0 ≤ i) && decide (i < (vs.length : Int))) = true := by
            simp only [Bool.and_eq_true, decide_eq_true_eq]; omega
          simp only [seqIndex?, if_neg hn, hb, if_true]
        · exact hp.elim
      · exact hp.elim
    · exact hp.elim
  · exact hp.elim⟩
theorem m_insert : MtF X "list.insert" mInsert := ⟨_, mt_insert, fun L s t ts x xs H Q hR d1 d2 hp => by
  unfold mInsert at hp
  split at hp
  · next n i t =>
    split at hp
    · next a e0 =>
      split at hp
      · next hz =>
        obtain ⟨p, vs, rfl, h1, h2, h3⟩ := D.lstE hR d1 e0
        obtain ⟨y, z, rfl, dy, dz⟩ := two_of (X := X) d2
        cases dy.intE
        exact ⟨p, vs, i, z, rfl, rfl, h2, by rw [h3.length]; exact hz.1, hz.2.1, hz.2.2, hp.putLst hR h1 (((h3.take _).app (.cons dz .nil)).app (h3.drop _)) .non⟩
      · exact hp.elim
    · exact hp.elim
  · exact hp.elim⟩
end
end Fx

set_option maxRecDepth 100000
set_option maxHeartbeats 2000000
/-! Fx: texts, f-strings, repr, starred displays and targets. -/
namespace Fx
open PySem L2 PyProof.Rows

section
variable {X : Cx} {W : WX} {N : List Str} {sc : Scope} {pos : Pos} {a b c e o i : Expr} {fa fb fv : Ev} {fl : Lv} {es : List Expr} {ws : List Nat}
/-! ### texts -/
def strTs (ys : List Str) : List T := ys.map T.str
theorem strTs_of {K : PySem.W.Frag} {mg : Str → Option Value} {L : List Addr} {H : Hp} : ∀ ys : List Str, Ds K mg L H (ys.map V.str) (strTs ys)
  | [] => .nil
  | y :: r => .cons (.str y) (strTs_of r)
def mSplit : T → List T → Sto → OV := fun x ts s => match x, ts with
  | .str a, [.str b] => if (b.length == 0) = false ∧ a.length + 2 ≤ sizeLine then some (.loc s.len, s.add (.lst (strTs (Txt.split a b)))) else none
  | _, _ => none
theorem m_split : MtF X "str.split" mSplit := ⟨_, mt_split, fun L s t ts x xs H Q hR d1 d2 hp => by
  unfold mSplit at hp
  split at hp
  · next a b =>
    split at hp
    · next hz =>
      cases d1.strE
      obtain ⟨y, rfl, dy⟩ := one_of (X := X) d2
      cases dy.strE
      exact ⟨a, b, rfl, rfl, hz.1, hz.2, fun p hn => hp.newLst hR (strTs_of _) hn⟩
    · exact hp.elim
  · exact hp.elim⟩
def mUpper : T → List T → Sto → OV := fun x ts s => match x, ts with
  | .str a, [] => if a.length ≤ 5592405 then some (.str (Txt.upper a), s) else none
  | _, _ => none
theorem m_upper : MtF X "str.upper" mUpper := ⟨_, mt_upper, fun L s t ts x xs H Q hR d1 d2 hp => by
  unfold mUpper at hp
  split at hp
  · next a =>
    split at hp
    · next hz =>
      cases d1.strE
      cases d2
      exact ⟨a, rfl, rfl, hz, hp.here hR (.str _)⟩
    · exact hp.elim
  · exact hp.elim⟩
/-- a.join(ts) -/
def joinT (a : Str) (ts : List T) (s : Sto) : OV := match strs? ts with
  | some ys => if (ys.map (·.length)).sum + ys.length * a.length ≤ 16777216 then some (.str (Txt.join a ys), s) else none
  | none => none
def mJoin : T → List T → Sto → OV := fun x ts s => match x, ts with
  | .str a, [t] => (match itemsT s t with | some us => joinT a us s | none => none)
  | _, _ => none
theorem m_join : MtF X "str.join" mJoin := ⟨_, mt_join, fun L s t ts x xs H Q hR d1 d2 hp => by
  unfold mJoin at hp
  split at hp
  · next a t =>
    split at hp
    · next us e0 =>
      unfold joinT at hp
      split at hp
      · next ys e1 =>
        split at hp
        · next hz =>
          cases d1.strE
          obtain ⟨y, rfl, dy⟩ := one_of (X := X) d2
          obtain ⟨p, vs, rfl, hq, hd⟩ := items_of (X := X) hR dy e0
          have ev := strs_of hd e1
          subst ev
          exact ⟨a, p, ys, rfl, rfl, hq, hz, hp.here hR (.str _)⟩
        · exact hp.elim
      · exact hp.elim
    · exact hp.elim
  · exact hp.elim⟩
/-- a.join([..]): the list is seen by the method alone -/
def eJoin (a : Ev) (l : Lv) : Ev := fun r s => (a r s).bnd fun x s => match x with
  | .str z => (l r s).bnd fun ts s => vOut (joinT z ts s)
  | _ => .bad
variable {apos cpos : Pos}
theorem r_join (ho : FE X W o fa) (ha : FC X W e fl)
    (hbase : attributeBase o "join" X.env (eval o X.env) = eval o X.env := by rfl)
    (hfew : ((backTo cpos (starEach (e :: []) X.env)).all (fun x => !x.1) && (backToKw cpos (keywordEach [] X.env)).all (fun x => x.1.isSome)
      && decide ((e :: []).length + ([] : List Keyword).length + (if ([] : List Keyword).isEmpty then 0 else 1) < 30)) = true := by rfl)
    (hline : (apos.endLine == cpos.line) = true := by rfl) (hs : starEach (e :: []) X.env = (false, eval e X.env) :: starEach [] X.env := by rfl) (hplain : (backTo cpos (starEach [] X.env)).any (·.1) = false := by rfl) :
    FE X W (.Call (.Attribute o "join" apos) [e] [] cpos) (eJoin fa fl) := by
  obtain ⟨t, h3, h4⟩ := ha
  refine PEw (pe_bm F.plainAttrs_str F.slot_str_join F.type_str_join mt_join ho (pa_cons h3 pa_nil hs) hbase hfew hline hs hplain) fun σ H Q ⟨L, r, s, hR, hE, hp⟩ => ?_
  refine lE_bnd hR hE hp fun t1 s1 v1 L1 H1 x1 R1 E1 d1 p1 => ?_
  cases t1 with
  | str z =>
    cases d1.strE
    refine ⟨rfl, h4 σ H1 _ L1 r s1 R1 E1 ?_⟩
    simp only at p1
    exact tmp_post R1 p1 fun p L' s' H' vs ts R2 hl np hz d2 p2 => by
      unfold joinT at p2
      split at p2
      · next ys e1 =>
        split at p2
        · next hz2 =>
          have ev := strs_of d2 e1
          subst ev
          exact ⟨z, p, ys, rfl, rfl, .inl (.inl (.inl hl)), hz2, p2.here R2 (.str _)⟩
        · exact p2.elim
      · exact p2.elim
  | _ => exact p1.elim

/-! ### f-strings -/
def fmtT : T → Sto → OV
  | .str y, s => if y.length ≤ sizeLine then some (.str y, s) else none
  | .int i, s => if okN i then some (.str (toString i), s) else none
  | _, _ => none
theorem r_fmt (ha : FE X W a fa) : FE X W (.FormattedValue a (-1) none pos) (eUn fmtT fa) := by
  refine PEw (pe_fmt ha) fun σ H Q ⟨L, r, s, hR, hE, hp⟩ => ?_
  refine lE_bnd hR hE hp fun t1 s1 v1 L1 H1 x1 R1 E1 d1 p1 => ?_
  have p2 := PostV.of p1
  unfold fmtT at p2
  split at p2
  · next y =>
    split at p2
    · next hz =>
      cases d1.strE
      exact .inl ⟨y, rfl, hz, p2.here R1 (.str _)⟩
    · exact p2.elim
  · next i =>
    split at p2
    · next hz =>
      cases d1.intE
      exact .inr ⟨i, rfl, Nat.lt_trans (okN_log hz) (by decide), p2.here R1 (.str _)⟩
    · exact p2.elim
  · exact p2.elim
/-- the parts' texts one behind the other -/
def joinF : List Ev → Str → Env → Sto → Out
  | [], acc, _, s => .ok (.str acc) s
  | f :: q, acc, r, s => (f r s).bnd fun t s => match t with
    | .str y => if (acc ++ y).length ≤ sizeLine then joinF q (acc ++ y) r s else .bad
    | _ => .bad
def eFs (l : List Ev) : Ev := joinF l Str.empty
inductive FJ (X : Cx) (W : WX) : List Expr → List Ev → Prop
  | nil : FJ X W [] []
  | cons {e : Expr} {f : Ev} {es : List Expr} {l : List Ev} : FE X W e f → FJ X W es l → FJ X W (e :: es) (f :: l)
theorem FJ.pj {es : List Expr} {l : List Ev} (h : FJ X W es l) : PJ X es (l.map (lE X.K X.mg W)) := by
  induction h with
  | nil => exact .nil
  | cons h1 _ ih => exact .cons h1 ih
theorem joinF_of {σ : L2.St} {Q : VK} : ∀ {l : List Ev} {acc : Str} {L : List Addr} {H : Hp} {r : Env} {s : Sto}, Rl X.K X.mg L s H → Er X.K X.mg L H σ r → PostE X.K X.mg W L H σ Q (joinF l acc r s) → tJs (l.map (lE X.K X.mg W)) acc σ H fun out H1 => Q (.str out) H1
  | [], acc, L, H, r, s, R, E, hp => hp (.str acc) L H Ex.refl R (.str _)
  | f :: q, acc, L, H, r, s, R, E, hp => by
    show lE X.K X.mg W f σ H _
    refine lE_bnd R E hp fun t1 s1 v1 L1 H1 x1 R1 E1 d1 p1 => ?_
    split at p1
    · next y =>
      split at p1
      · next hz =>
        cases d1.strE
        exact ⟨y, rfl, hz, joinF_of R1 E1 p1⟩
      · exact p1.elim
    · exact p1.elim
theorem r_fstr {v1 v2 : Expr} {rest : List Expr} {l : List Ev} (h : FJ X W (v1 :: v2 :: rest) l) : FE X W (.JoinedStr (v1 :: v2 :: rest) pos) (eFs l) :=
  PEw (pe_joined h.pj) fun σ H Q ⟨L, r, s, hR, hE, hp⟩ => joinF_of hR hE hp
theorem r_fstr1 (ha : FE X W a fa) : FE X W (.JoinedStr [a] pos) fa := pe_joined1 ha

/-! ### repr -/
def refT : T → Bool
  | .tup _ => true | .frz _ => true | .loc _ => true
  | _ => false
def fRepr : List T → Sto → OV
  | [t], s => (match toD DEEP s t with | some d => if refT t = true ∧ d.showable = true ∧ d.shown.length ≤ sizeLine then some (.str d.shown, s) else none | none => none)
  | _, _ => none
/-- repr of lists and tuples of plain data -/
def rRep (K : PySem.W.Frag) : List V → Hp → VK → Prop := fun xs H Q => ∃ a d, xs = [.ref a] ∧ Dp K H (.ref a) d ∧ d.hasDict = false ∧ d.showable = true ∧ d.depth ≤ DEEP ∧ d.shown.length ≤ sizeLine ∧ Q (.str d.shown) H
theorem call_rep (hu : X.A.units + 64 < cLine) (hg : X.A.guards = some []) : CallR X (.builtin "repr") (rRep X.K) := by
  intro pins s σ H xs us Q I r h
  obtain ⟨a, d, rfl, hd, hn, hs, hdep, hz, q⟩ := h
  obtain rfl := Vals.ref1 r
  obtain ⟨as, rd⟩ := hd.reads I d (.ref a) (.ref a) rfl
  refine repr_of_reads' rd hs (fun e => by rw [hn] at e; cases e) hg (by unfold DEEP at hdep; omega) (fun _ _ e => e) (fun h' u tk hk => ?_) hz
  exact ⟨.str d.shown, H, I.kept hk, ⟨u, rfl⟩, q⟩
theorem f_repr (hu : X.A.units + 64 < cLine) (hg : X.A.guards = some []) : CallF X (.builtin "repr") fRepr := .of fun L s ts vs H Q hR d hp => by
  unfold fRepr at hp
  split at hp
  · next t =>
    split at hp
    · next dd e0 =>
      split at hp
      · next hz =>
        obtain ⟨v, rfl, d1⟩ := one_of (X := X) d
        have hD := toD_dp hR _ _ _ _ e0 d1
        obtain ⟨hl, hdep⟩ := toD_ok _ _ _ _ e0
        obtain ⟨hz0, hz1, hz2⟩ := hz
        cases t with
        | tup ts => 
          obtain ⟨a, vs, rfl, _, _⟩ := d1.tupE
          exact ⟨_, call_rep hu hg, a, dd, rfl, hD, PyData.hasDict_of_canLay dd hl, hz1, hdep, hz2, hp.here hR (.str _)⟩
        | frz ts => 
          obtain ⟨a, vs, rfl, _, _⟩ := d1.frzE
          exact ⟨_, call_rep hu hg, a, dd, rfl, hD, PyData.hasDict_of_canLay dd hl, hz1, hdep, hz2, hp.here hR (.str _)⟩
        | loc n => 
          obtain ⟨a, rfl, _⟩ := d1.locE
          exact ⟨_, call_rep hu hg, a, dd, rfl, hD, PyData.hasDict_of_canLay dd hl, hz1, hdep, hz2, hp.here hR (.str _)⟩
        | _ => cases hz0
      · exact hp.elim
    · exact hp.elim
  · exact hp.elim

/-! ### starred displays -/
def lStar (a : Ev) (l : Lv) : Lv := fun r s => (a r s).bndL fun x s => match itemsT s x with
  | some xs => (l r s).bndL fun ys s => .ok (xs ++ ys) s
  | none => .bad
theorem l_star (ha : FE X W a fa) (hl : FL X W es fl) (hs : starEach (.Starred a pos :: es) X.env = (true, eval a X.env) :: starEach es X.env := by rfl) : FL X W (.Starred a pos :: es) (lStar fa fl) := by
  refine PAw (StX.pa_star ha hl hs) fun σ H Q ⟨L, r, s, hR, hE, hp⟩ => ?_
  refine lE_bndL hR hE hp fun t1 s1 v1 L1 H1 x1 R1 E1 d1 p1 => ?_
  split at p1
  · next xs e0 =>
    obtain ⟨p, vs, rfl, hq, hd⟩ := items_of (X := X) R1 d1 e0
    refine ⟨p, vs, rfl, hq.symm, ?_⟩
    refine lL_bndL R1 E1 p1 fun ts s2 vs2 L2 H2 x2 R2 E2 d2 p2 => ?_
    exact p2 (vs ++ vs2) L2 H2 Ex.refl R2 ((hd.mono x2).app d2)
  · exact p1.elim
/-- *[..]: a list that nobody else sees -/
def lStarL (f l : Lv) : Lv := fun r s => (f r s).bndL fun xs s => (l r s).bndL fun ys s => .ok (xs ++ ys) s

/-! ### a, *rest = a list -/
theorem walk_rest {prog : Program} {w : World} {A : Around} (hh : A.handled = none) {it l : Addr} (hne : l ≠ it) (items : Array Value) (k : Nat) (hk : k ≤ items.size) :
    WalksS prog w A it [it, l] [it] (fun a b => a = b) (items.size - k) (fun i v => items[k + i]? = some v) (fun i s => s.heap.IsListIter it l (k + i) ∧ s.heap.IsList l items) where
  sub := fun b hb => by simp at hb; simp [hb]
  grefl := fun _ => rfl
  gtrans := fun _ _ _ h1 h2 => h1.trans h2
  frame := fun i s h' tk st _ hk' => ⟨st.1.at fun o e => hk' it (by simp) o e, st.2.at fun o e => hk' l (by simp) o e⟩
  item := fun i s Q E hi st hQ => by
    have hlt : k + i < items.size := by omega
    refine wpAny_pyNext_list_item st.1 st.2 (x := items[k + i]) (by simp [hlt]) fun h' hit' hs' => ?_
    exact hQ _ _ (by simp [hlt]) ⟨hit', st.2.extBut hs'.extBut hne⟩ ⟨fun b o hb e => hs'.extBut b o (fun h => hb (by simp [h])) e, rfl, rfl, rfl, Nat.le_refl _⟩
  done := fun s Q E st hQ => wpAny_pyNext_list_end hh st.1 st.2 (by simp; omega) fun h' he' => hQ _ ⟨fun b o hb e => he' b o (fun h => hb (by simp [h])) e, rfl, rfl, rfl, Nat.le_refl _⟩
  self := fun _ _ _ _ st hQ => wpAny_pyIter_listiter st.1 hQ
theorem items_rest {prog : Program} {w : World} {A : Around} {E : Value → Shared → Prop} {s : Shared} {l : Addr} {x : Value} {its : List Value} {Q : List Value → Shared → Prop} (hh : A.handled = none) (hl : s.heap.IsList l (x :: its).toArray) (hz : (x :: its).length ≤ sizeLine)
    (hQ : ∀ (h' : Heap) (t' : Nat), (∀ b o, s.heap.get? b = some o → h'.get? b = some o) → Q [x, .ref h'.objs.size] { s with heap := h'.push { cls := .type "list", data := .seq its.toArray }, toks := t' }) :
    wpAny (model prog w) A (unpackItems (.ref l) 2 (some 1)) Q E s := by
  have hlt : l ≠ s.heap.objs.size := by obtain ⟨o, ho, _⟩ := hl; exact Nat.ne_of_lt (Heap.lt_size ho)
  unfold unpackItems
  refine wpAny_bind ?_
  unfold notIterableAtAll
  refine wpAny_bind (wpAny_specialOf hl.typeIs F.slot_list_iter.lookup ?_)
  refine wpAny_pure ?_
  simp only [Bool.false_eq_true, if_false]
  refine wpAny_bind (wpAny_holding (wpAny_pyIter_list hl ?_))
  refine wpAny_bind (wpAny_holding (PySem.W.kun_draw hlt 1 0 _ _ ⟨_, Heap.get?_push_size _ rfl, rfl, rfl⟩ (hl.push _) (by simp) fun h₁ hit₁ hs₁ => ?_))
  have hall : List.take 1 (List.drop 0 (x :: its).toArray.toList) = [x] := by simp
  rw [hall]
  rw [if_neg (by simp)]
  have hl₁ : h₁.IsList l (x :: its).toArray := (hl.push _).extBut hs₁.extBut hlt
  have old : ∀ b o, s.heap.get? b = some o → b ≠ s.heap.objs.size → h₁.get? b = some o := fun b o e hb => hs₁.extBut b o hb (Heap.get?_push_of_some _ e)
  have hsz1 : s.heap.objs.size < h₁.objs.size := by
    obtain ⟨o, ho, _⟩ := hit₁
    exact Heap.lt_size ho
  refine wpAny_bind (wpAny_holding (wpAny_collect_iter (T := "list_iterator") (.inr (.inr (.inl rfl))) (walk_rest (A := A.in1) hh hlt (x :: its).toArray 1 (by simp)) (fun i s st => st.1.typeIs) ⟨by simpa using hit₁, hl₁⟩ (fun b hb => ?_) (by simp) (fun s' acc hm hacc => ?_) (hn := by simp only [List.size_toArray, List.length_cons] at hz ⊢; omega)))
  · simp only [List.mem_cons, List.not_mem_nil, or_false] at hb
    rcases hb with rfl | rfl
    · exact hsz1
    · obtain ⟨o, ho, _⟩ := hl₁
      exact Heap.lt_size ho
  have hacc' : acc.toList = its := by
    obtain ⟨h1, h2⟩ := hacc
    simp at h1
    refine List.ext_getElem? fun j => ?_
    cases e : acc.toList[j]? with
    | none =>
      have : acc.size ≤ j := by
        have := List.getElem?_eq_none_iff.mp e
        simpa using this
      exact (List.getElem?_eq_none (by omega)).symm
    | some v =>
      have h3 := h2 j v (by rw [← Array.getElem?_toList]; exact e)
      rw [← h3]
      simp [Nat.add_comm 1 j]
  rw [hacc']
  simp only [Nat.add_one_sub_one, Nat.sub_self, Nat.not_lt_zero, if_false, Nat.sub_zero, List.take_length, List.drop_length]
  refine wpAny_bind (wpAny_newList ?_)
  refine wpAny_pure ?_
  simp only [List.append_nil, List.singleton_append]
  have z := hQ s'.heap s'.toks (fun b o e => ?_)
  · obtain ⟨s1, s2, s3, s4, s5⟩ := s'
    have e1 := hm.gens; have e2 := hm.drawn; have e3 := hm.os
    simp only at e1 e2 e3
    subst e1 e2 e3
    exact z
  have hb : b ≠ s.heap.objs.size := Nat.ne_of_lt (Heap.lt_size e)
  exact hm.heap b o (by simp [hb]) (old b o e hb)
def gSt (K : PySem.W.Frag) (t : TGs) : TG := fun v σ H Q => ∃ a x xs, v = .ref a ∧ SqL K H a (x :: xs) ∧ ∀ p, H p = none → t [x, .ref p] σ (upd H p (.lst xs)) Q
theorem pg_star {e1 e2 : Expr} {k : Nat} {p2 : Pos} {t : TGs} (hc : X.calm = true) (h : PGs X [e1, e2] t) (hn : (assignEach [e1, .Starred e2 p2] X.env).length = 2 := by rfl) (hst : (assignEach [e1, .Starred e2 p2] X.env).findIdx? (·.1) = some 1 := by rfl)
    (hm : (assignEach [e1, .Starred e2 p2] X.env).map (·.2) = (assignEach [e1, e2] X.env).map (·.2) := by rfl) : PG X (.Tuple [e1, .Starred e2 p2] k pos) (gSt X.K t) := by
  refine ⟨fun pins s σ H v u Q I r hw => ?_⟩
  obtain ⟨a, x0, xs, e1', hq, hw⟩ := hw
  subst e1'
  cases r
  obtain ⟨its, rv, pl, hz⟩ := I.list hq
  cases rv with
  | cons r1 r2 =>
    rename_i u1 us
    rw [PyProof.Rows.assign_Tuple]
    refine wpAny_bind (wpAny_standAt ?_)
    unfold unpack
    rw [hn, hst]
    refine wpAny_bind (wpAny_holding (items_rest (I.ok.hd hc) pl.isList (by have := r2.length; simp only [List.length_cons] at hz ⊢; omega) fun h' t' hk => ?_))
    rw [hm]
    have I1 : Inv X pins σ H { s with heap := h', toks := t' } := I.kept hk
    have I2 := I1.lnew (t' := t') r2 (by simp only [List.length_cons] at hz; omega)
    exact h.run pins _ σ _ [x0, .ref h'.objs.size] _ Q I2 (.cons r1 (.cons rfl .nil)) (hw _ I1.fresh)
end
end Fx

set_option maxRecDepth 100000
set_option maxHeartbeats 2000000
/-! Fx: what a for walks; more targets. -/
namespace Fx
open PySem L2 PyProof.Rows

section
variable {X : Cx} {W : WX} {N : List Str} {sc : Scope} {pos : Pos} {a b c e o i tg : Expr} {fa fb fv : Ev} {fl : Lv} {es : List Expr} {ws : List Nat}
open Classical in
/-- the list at n is still that -/
noncomputable def chkL (n : Nat) (ts : List T) : Sto → Bool := fun s => decide (s.get n = some (.lst ts))
open Classical in
theorem chkL_iff {n : Nat} {ts : List T} {s : Sto} : chkL n ts s = true ↔ s.get n = some (.lst ts) := by unfold chkL; exact decide_eq_true_iff
def chkT : Sto → Bool := fun _ => true
def signs (z : Str) : List T := z.cps.toList.map fun c => .str ⟨#[c]⟩
noncomputable def seqI (x : T) (s : Sto) : OutI := match x with
  | .tup ts => .ok ts chkT s
  | .frz ts => .ok ts chkT s
  | .str z => .ok (signs z) chkT s
  | .loc n => (match s.get n with | some (.lst ts) => .ok ts (chkL n ts) s | _ => .bad)
  | _ => .bad
/-- for .. in a list, a tuple, a text -/
noncomputable def iSeq (f : Ev) : Iv := fun r s => (f r s).bndI fun x s => seqI x s
theorem SqT.frame {K : PySem.W.Frag} {L L1 : List Addr} {H H1 : Hp} {p : Addr} {vs : List V} (h : TupAt K H p vs) (x : Ex L H L1 H1) : TupAt K H1 p vs := by
  rcases h with h | h
  · exact .inl (x.tup _ _ h)
  · exact .inr h
theorem FrzAt.frame {K : PySem.W.Frag} {L L1 : List Addr} {H H1 : Hp} {p : Addr} {vs : List V} (h : FrzAt K H p vs) (x : Ex L H L1 H1) : FrzAt K H1 p vs := by
  rcases h with ⟨o, h⟩ | h
  · exact .inl ⟨o, x.frz _ _ _ h⟩
  · exact .inr h
/-- a walk that leaves the heap as it is -/
theorem walkF_same {K : PySem.W.Frag} {mg : Str → Option Value} {L : List Addr} {H : Hp} {J : It} {ts : List T} {chk : Sto → Bool} {xs : List V} {G : Hp → Prop} {Y : Nat → V → Prop} (w : Walk J xs.length G fun i H x H' => H' = H ∧ Y i x)
    (hY : ∀ i x, Y i x → xs[i]? = some x) (hg : ∀ L1 s1 H1, Ex L H L1 H1 → Rl K mg L1 s1 H1 → chk s1 = true → G H1 ∧ Ds K mg L1 H1 xs ts) : WalkF K mg L H J ts chk := by
  intro L1 s1 H1 x1 R1 hk
  obtain ⟨g, d⟩ := hg L1 s1 H1 x1 R1 hk
  have hl := d.length
  refine ⟨by rw [← hl]; exact w.stops H1 g, fun i t ht => ?_⟩
  have hi : i < xs.length := by rw [hl]; exact (List.getElem?_eq_some_iff.mp ht).1
  refine ⟨w.goes i H1 hi g, fun x H2 y => ?_⟩
  obtain ⟨rfl, hy⟩ := w.yields i H1 x H2 hi g y
  obtain ⟨v, h1, h2⟩ := d.get ht
  rw [hY i x hy] at h1
  cases h1
  exact ⟨Ex.refl, R1, h2⟩
theorem walkF_list {K : PySem.W.Frag} {mg : Str → Option Value} {L : List Addr} {H : Hp} {n : Nat} {p : Addr} {ts : List T} (h : L[n]? = some p) : WalkF K mg L H (Itl K p) ts (chkL n ts) := by
  intro L1 s1 H1 x1 R1 hk
  have hk : s1.get n = some (.lst ts) := chkL_iff.mp hk
  obtain ⟨q, h1, vs, h2, h3⟩ := R1.get hk
  rw [x1.get h] at h1; cases h1
  have w := walk_list (K := K) (a := p) (xs := vs)
  have hl := h3.length
  have g : SqL K H1 p vs := .inl (.inl h2)
  refine ⟨by rw [← hl]; exact w.stops H1 g, fun i t ht => ?_⟩
  have hi : i < vs.length := by rw [hl]; exact (List.getElem?_eq_some_iff.mp ht).1
  refine ⟨w.goes i H1 hi g, fun x H2 y => ?_⟩
  obtain ⟨rfl, hy⟩ := w.yields i H1 x H2 hi g y
  obtain ⟨v, h1, h2⟩ := h3.get ht
  rw [hy] at h1
  cases h1
  exact ⟨Ex.refl, R1, h2⟩
theorem walkF_frz {K : PySem.W.Frag} {mg : Str → Option Value} {L : List Addr} {H : Hp} {p : Addr} {ts : List T} {vs : List V} (h : FrzAt K H p vs) (d : Ds K mg L H vs ts) : WalkF K mg L H (Itl K p) ts chkT :=
  walkF_same (Y := fun i x => vs[i]? = some x) walk_list (fun _ _ h => h) fun L1 s1 H1 x1 R1 _ => ⟨(h.frame x1).sq, d.mono x1⟩
theorem walkF_tup {K : PySem.W.Frag} {mg : Str → Option Value} {L : List Addr} {H : Hp} {p : Addr} {ts : List T} {vs : List V} (h : TupAt K H p vs) (d : Ds K mg L H vs ts) : WalkF K mg L H (Itt K p) ts chkT :=
  walkF_same (Y := fun i x => vs[i]? = some x) walk_tup (fun _ _ h => h) fun L1 s1 H1 x1 R1 _ => ⟨(SqT.frame h x1).sq, d.mono x1⟩
theorem signs_ds {K : PySem.W.Frag} {mg : Str → Option Value} {L : List Addr} {H : Hp} : ∀ l : List Nat, Ds K mg L H (l.map fun c => V.str ⟨#[c]⟩) (l.map fun c => T.str ⟨#[c]⟩)
  | [] => .nil
  | c :: r => .cons (.str _) (signs_ds r)
theorem walkF_str {K : PySem.W.Frag} {mg : Str → Option Value} {L : List Addr} {H : Hp} {z : Str} : WalkF K mg L H (Its z) (signs z) chkT := by
  refine walkF_same (xs := z.cps.toList.map fun c => V.str ⟨#[c]⟩) (G := fun _ => True) (Y := fun i v => ∃ c, z.cps[i]? = some c ∧ v = .str ⟨#[c]⟩) ?_ (fun i x h => ?_) fun L1 s1 H1 x1 R1 _ => ⟨trivial, signs_ds _⟩
  · have := walk_str (z := z)
    simpa using this
  · obtain ⟨c, h1, rfl⟩ := h
    simp [h1]
/-- walked, by the value -/
def iVal (K : PySem.W.Frag) (t : TE) : TI := fun σ H R => t σ H fun x H1 => (∃ p xs, x = .ref p ∧ SqL K H1 p xs ∧ R (Itl K p) H1) ∨ (∃ p xs, x = .ref p ∧ SqT K H1 p xs ∧ R (Itt K p) H1) ∨ ∃ z, x = .str z ∧ R (Its z) H1
theorem pi_val {t : TE} (he : PE X e t) : PI X tg e (iVal X.K t) := by
  refine ⟨fun pins s σ H R I h => thn (he.run pins s σ H _ I h) fun v s1 ⟨x, H1, I1, r1, q1⟩ => ?_⟩
  rcases q1 with ⟨p, xs, rfl, hq, q⟩ | ⟨p, xs, rfl, hq, q⟩ | ⟨z, rfl, q⟩
  · cases r1
    obtain ⟨its, rv, pl, _⟩ := I1.list hq
    exact wpAny_pyIter_list pl.isList (pi_one (tk := s1.toks) I1 _ (turn_list p _) ⟨_, Heap.get?_push_size _ rfl, rfl, rfl⟩ q)
  · cases r1
    obtain ⟨its, rv, pl, _⟩ := I1.tuple hq
    exact wpAny_pyIter_tuple (show s1.heap.IsTuple p its.toArray from pl) (pi_one (tk := s1.toks) I1 _ (turn_tuple p _) ⟨_, Heap.get?_push_size _ rfl, rfl, rfl⟩ q)
  · obtain ⟨t, rfl⟩ := r1
    cases ha : z.cps.all (· < 128)
    · exact wpAny_pyIter_wide ha (pi_one (tk := s1.toks) I1 _ (turn_str _ z t "str_iterator" (.inr rfl)) ⟨_, Heap.get?_push_size _ rfl, rfl, rfl⟩ q)
    · exact wpAny_pyIter_ascii ha (pi_one (tk := s1.toks) I1 _ (turn_str _ z t "str_ascii_iterator" (.inl rfl)) ⟨_, Heap.get?_push_size _ rfl, rfl, rfl⟩ q)
theorem lE_bndI {f : Ev} {k : T → Sto → OutI} {σ : L2.St} {H : Hp} {RI : It → Hp → Prop} {L : List Addr} {r : Env} {s : Sto} {R : VK} (hR : Rl X.K X.mg L s H) (hE : Er X.K X.mg L H σ r) (hp : PostI X.K X.mg W L H σ RI ((f r s).bndI k))
    (go : ∀ t s' v L' H', Ex L H L' H' → Rl X.K X.mg L' s' H' → D X.K X.mg L' H' v t → PostI X.K X.mg W L' H' σ RI (k t s') → R v H') : lE X.K X.mg W f σ H R := by
  refine ⟨L, r, s, hR, hE, ?_⟩
  cases e : f r s with
  | ok t s' =>
    rw [e] at hp
    refine fun v L' H' x hR' hd => go t s' v L' H' x hR' hd ?_
    have hp : PostI X.K X.mg W L H σ RI (k t s') := hp
    cases e2 : k t s' with
    | ok ts chk s2 => rw [e2] at hp; exact fun J L2 H2 x2 => hp J L2 H2 (x.trans x2)
    | exc y s2 => rw [e2] at hp; exact fun c d L2 H2 x2 => hp c d L2 H2 (x.trans x2)
    | bad => rw [e2] at hp; exact hp
  | exc x s' => rw [e] at hp; exact hp
  | bad => rw [e] at hp; exact hp
theorem i_seq (ha : FE X W e fa) : FI X W tg e (iSeq fa) := by
  refine PIw (pi_val ha) fun σ H R ⟨L, r, s, hR, hE, hp⟩ => ?_
  refine lE_bndI hR hE hp fun t1 s1 v1 L1 H1 x1 R1 d1 p1 => ?_
  unfold seqI at p1
  split at p1
  · obtain ⟨p, vs, rfl, h1, h2⟩ := d1.tupE
    exact .inr (.inl ⟨p, vs, rfl, h1.sq, p1 _ L1 H1 Ex.refl R1 (walkF_tup h1 h2)⟩)
  · obtain ⟨p, vs, rfl, h1, h2⟩ := d1.frzE
    exact .inl ⟨p, vs, rfl, h1.sq, p1 _ L1 H1 Ex.refl R1 (walkF_frz h1 h2)⟩
  · next z =>
    cases d1.strE
    exact .inr (.inr ⟨z, rfl, p1 _ L1 H1 Ex.refl R1 walkF_str⟩)
  · next n =>
    split at p1
    · next ts e0 =>
      obtain ⟨p, vs, rfl, h0, h1, h2⟩ := D.lstE R1 d1 e0
      exact .inl ⟨p, vs, rfl, .inl (.inl h1), p1 _ L1 H1 Ex.refl R1 (walkF_list h0)⟩
    · exact p1.elim
  · exact p1.elim
/-! ### range -/
def rgT (i j : Int) : List T := (List.range (j - i).toNat).map fun (k : Nat) => T.int (i + (k : Int))
def okR (i : Int) : Bool := decide (-(2 ^ 62) ≤ i ∧ i < 2 ^ 62)
def iRg1 (l : Lv) : Iv := fun r s => (l r s).bndI fun ts s => match ts with
  | [.int j] => if okR j = true then .ok (rgT 0 j) chkT s else .bad
  | _ => .bad
def iRg2 (l : Lv) : Iv := fun r s => (l r s).bndI fun ts s => match ts with
  | [.int i, .int j] => if okR i = true ∧ okR j = true then .ok (rgT i j) chkT s else .bad
  | _ => .bad
theorem lL_bndI {f : Lv} {k : List T → Sto → OutI} {σ : L2.St} {H : Hp} {RI : It → Hp → Prop} {L : List Addr} {r : Env} {s : Sto} {R : List V → Hp → Prop} (hR : Rl X.K X.mg L s H) (hE : Er X.K X.mg L H σ r) (hp : PostI X.K X.mg W L H σ RI ((f r s).bndI k))
    (go : ∀ t s' v L' H', Ex L H L' H' → Rl X.K X.mg L' s' H' → Ds X.K X.mg L' H' v t → PostI X.K X.mg W L' H' σ RI (k t s') → R v H') : lL X.K X.mg W f σ H R := by
  refine ⟨L, r, s, hR, hE, ?_⟩
  cases e : f r s with
  | ok t s' =>
    rw [e] at hp
    refine fun v L' H' x hR' hd => go t s' v L' H' x hR' hd ?_
    have hp : PostI X.K X.mg W L H σ RI (k t s') := hp
    cases e2 : k t s' with
    | ok ts chk s2 => rw [e2] at hp; exact fun J L2 H2 x2 => hp J L2 H2 (x.trans x2)
    | exc y s2 => rw [e2] at hp; exact fun c d L2 H2 x2 => hp c d L2 H2 (x.trans x2)
    | bad => rw [e2] at hp; exact hp
  | exc x s' => rw [e] at hp; exact hp
  | bad => rw [e] at hp; exact hp
theorem rg_ds {K : PySem.W.Frag} {mg : Str → Option Value} {L : List Addr} {H : Hp} (i : Int) : ∀ l : List Nat, Ds K mg L H (l.map fun (k : Nat) => V.int (i + (k : Int))) (l.map fun (k : Nat) => T.int (i + (k : Int)))
  | [] => .nil
  | c :: r => .cons (.int _) (rg_ds i r)
theorem walkF_rg {K : PySem.W.Frag} {mg : Str → Option Value} {L : List Addr} {H : Hp} {i j : Int} : WalkF K mg L H (Itr i (j - i).toNat) (rgT i j) chkT := by
  refine walkF_same (xs := (List.range (j - i).toNat).map fun (k : Nat) => V.int (i + (k : Int))) (G := fun _ => True) (Y := fun k v => k < (j - i).toNat ∧ v = .int (i + (k : Int))) ?_ (fun k x h => ?_) fun L1 s1 H1 x1 R1 _ => ⟨trivial, rg_ds _ _⟩
  · have := walk_range (lo := i) (n := (j - i).toNat)
    rw [List.length_map, List.length_range]
    exact this.mono (fun _ h => h) fun k H x H' hk _ y => ⟨y.1, hk, y.2⟩
  · obtain ⟨h1, rfl⟩ := h
    simp [h1]
variable {p : Pos}
theorem i_rg1 (B : Bx X N sc) (hg : sc.names.lookup ("range" : Str) = some .globalImplicit) (hm : X.mg "range" = none) (ha : FL X W [a] fl) (hs : starEach [a] X.env = [(false, eval a X.env)] := by rfl) : FI X W tg (.Call (.Name "range" p) [a] [] pos) (iRg1 fl) := by
  refine PIw (pi_range1 (B.gl hg) hm ha hs) fun σ H R ⟨L, r, s, hR, hE, hp⟩ => ?_
  refine lL_bndI hR hE hp fun t1 s1 v1 L1 H1 x1 R1 d1 p1 => ?_
  split at p1
  · next j =>
    split at p1
    · next hz =>
      obtain ⟨v, rfl, dv⟩ := one_of (X := X) d1
      cases dv.intE
      have hz := of_decide_eq_true hz
      exact ⟨j, rfl, hz.1, hz.2, p1 _ L1 H1 Ex.refl R1 (by have := walkF_rg (K := X.K) (mg := X.mg) (L := L1) (H := H1) (i := 0) (j := j); simpa using this)⟩
    · exact p1.elim
  · exact p1.elim
theorem i_rg2 (B : Bx X N sc) (hg : sc.names.lookup ("range" : Str) = some .globalImplicit) (hm : X.mg "range" = none) (ha : FL X W [a, b] fl) (hs : starEach [a, b] X.env = [(false, eval a X.env), (false, eval b X.env)] := by rfl) (hs2 : starEach [b] X.env = [(false, eval b X.env)] := by rfl) : FI X W tg (.Call (.Name "range" p) [a, b] [] pos) (iRg2 fl) := by
  refine PIw (pi_range2 (B.gl hg) hm ha hs hs2) fun σ H R ⟨L, r, s, hR, hE, hp⟩ => ?_
  refine lL_bndI hR hE hp fun t1 s1 v1 L1 H1 x1 R1 d1 p1 => ?_
  split at p1
  · next i j =>
    split at p1
    · next hz =>
      obtain ⟨v, w, rfl, dv, dw⟩ := two_of (X := X) d1
      cases dv.intE; cases dw.intE
      have hz1 := of_decide_eq_true hz.1
      have hz2 := of_decide_eq_true hz.2
      exact ⟨i, j, rfl, ⟨hz1.1, hz1.2, hz2.1, hz2.2⟩, p1 _ L1 H1 Ex.refl R1 walkF_rg⟩
    · exact p1.elim
  · exact p1.elim

/-! ### enumerate, zip -/
/-- a walk that lays a new pair at each turn -/
theorem walkF_pair {K : PySem.W.Frag} {mg : Str → Option Value} {L : List Addr} {H : Hp} {J : It} {ps : List (T × T)} {chk : Sto → Bool} {n : Nat}
    (hn : n = ps.length) (hg : ∀ L1 s1 H1, Ex L H L1 H1 → Rl K mg L1 s1 H1 → chk s1 = true → ∃ G fx fy, Walk J n G (YPair fx fy) ∧ G H1 ∧ ∀ i x y v w, ps[i]? = some (x, y) → fx i = some v → fy i = some w → D K mg L1 H1 v x ∧ D K mg L1 H1 w y) :
    WalkF K mg L H J (ps.map fun p => T.tup [p.1, p.2]) chk := by
  intro L1 s1 H1 x1 R1 hk
  obtain ⟨G, fx, fy, w, g, d⟩ := hg L1 s1 H1 x1 R1 hk
  refine ⟨by rw [List.length_map, ← hn]; exact w.stops H1 g, fun i t ht => ?_⟩
  obtain ⟨⟨x, y⟩, ht1, rfl⟩ : ∃ q, ps[i]? = some q ∧ T.tup [q.1, q.2] = t := by simpa using ht
  have hi : i < n := by rw [hn]; exact (List.getElem?_eq_some_iff.mp ht1).1
  refine ⟨w.goes i H1 hi g, fun v H2 yl => ?_⟩
  obtain ⟨q, v1, v2, rfl, h0, rfl, h1, h2⟩ := w.yields i H1 v H2 hi g yl
  obtain ⟨d1, d2⟩ := d i x y v1 v2 ht1 h1 h2
  have ex : Ex L1 H1 L1 (upd H1 q (.tup [v1, v2])) := Ex.laid h0
  exact ⟨ex, R1.laid h0, .tup (.inl upd_same) (.cons (d1.mono ex) (.cons (d2.mono ex) .nil))⟩
/-- a list's items and the check -/
noncomputable def lstI (x : T) (s : Sto) : Option (List T × (Sto → Bool)) := match x with
  | .frz ts => some (ts, chkT)
  | .loc n => (match s.get n with | some (.lst ts) => some (ts, chkL n ts) | _ => none)
  | _ => none
theorem lstI_of {K : PySem.W.Frag} {mg : Str → Option Value} {L : List Addr} {H : Hp} {s : Sto} {x : T} {v : V} {ts : List T} {chk : Sto → Bool} (R : Rl K mg L s H) (d : D K mg L H v x) (h : lstI x s = some (ts, chk)) :
    ∃ p vs, v = .ref p ∧ SqL K H p vs ∧ vs.length = ts.length ∧ ∀ L1 s1 H1, Ex L H L1 H1 → Rl K mg L1 s1 H1 → chk s1 = true → ∃ ws, SqL K H1 p ws ∧ Ds K mg L1 H1 ws ts := by
  unfold lstI at h
  split at h
  · cases h
    obtain ⟨p, vs, rfl, h1, h2⟩ := d.frzE
    exact ⟨p, vs, rfl, h1.sq, h2.length, fun L1 s1 H1 x1 R1 _ => ⟨vs, (h1.frame x1).sq, h2.mono x1⟩⟩
  · split at h
    · rename_i n _ us e0
      cases h
      obtain ⟨p, vs, rfl, h0, h1, h2⟩ := D.lstE R d e0
      refine ⟨p, vs, rfl, .inl (.inl h1), h2.length, fun L1 s1 H1 x1 R1 hk => ?_⟩
      have hk : s1.get n = some (.lst _) := chkL_iff.mp hk
      obtain ⟨q, h3, ws, h4, h5⟩ := R1.get hk
      rw [x1.get h0] at h3; cases h3
      exact ⟨ws, .inl (.inl h4), h5⟩
    · cases h
  · cases h
def enumP (ts : List T) : List (T × T) := (List.range ts.length).zipWith (fun (i : Nat) t => (T.int (i : Int), t)) ts
noncomputable def iEn (l : Lv) : Iv := fun r s => (l r s).bndI fun ts s => match ts with
  | [x] => (match lstI x s with | some (us, chk) => .ok ((enumP us).map fun p => T.tup [p.1, p.2]) chk s | none => .bad)
  | _ => .bad
theorem i_en {elts : List Expr} {kk : Nat} {tpos : Pos} (B : Bx X N sc) (hg : sc.names.lookup ("enumerate" : Str) = some .globalImplicit) (hm : X.mg "enumerate" = none) (ha : FL X W [a] fl) (hs : starEach [a] X.env = [(false, eval a X.env)] := by rfl) :
    FI X W (.Tuple elts kk tpos) (.Call (.Name "enumerate" p) [a] [] pos) (iEn fl) := by
  refine PIw (pi_enum (B.gl hg) hm ha hs) fun σ H R ⟨L, r, s, hR, hE, hp⟩ => ?_
  refine lL_bndI hR hE hp fun t1 s1 v1 L1 H1 x1 R1 d1 p1 => ?_
  split at p1
  · next x =>
    split at p1
    · next us chk e0 =>
      obtain ⟨v, rfl, dv⟩ := one_of (X := X) d1
      obtain ⟨p, vs, rfl, hq, hl, hw⟩ := lstI_of R1 dv e0
      refine ⟨p, vs, rfl, hq, p1 _ L1 H1 Ex.refl R1 (walkF_pair (n := us.length) (by simp [enumP]) fun L2 s2 H2 x2 R2 hk => ?_)⟩
      obtain ⟨ws, h1, h2⟩ := hw L2 s2 H2 x2 R2 hk
      have wk := walk_enum (K := X.K) (a := p) (xs := ws)
      rw [h2.length] at wk
      refine ⟨_, _, _, wk, h1, fun i x y v w e1 e2 e3 => ?_⟩
      simp only [enumP, List.getElem?_zipWith] at e1
      cases e4 : us[i]? with
      | none => simp [e4] at e1
      | some u =>
        have hi : i < us.length := (List.getElem?_eq_some_iff.mp e4).1
        have eu : us[i] = u := by
          have := List.getElem?_eq_getElem hi
          rw [e4] at this; exact (Option.some.inj this).symm
        simp [hi, eu] at e1
        obtain ⟨rfl, rfl⟩ := e1
        obtain ⟨w', h5, h6⟩ := h2.get e4
        rw [e3] at h5; cases h5
        cases e2
        exact ⟨.int _, h6⟩
    · exact p1.elim
  · exact p1.elim
/-! ### a, *rest = .. -/
def gStF (gs : List T → Env → Sto → Fl) : Gv := fun t r s => match t with
  | .loc n => (match s.get n with | some (.lst (x :: xs)) => gs [x, .loc s.len] r (s.add (.lst xs)) | _ => .bad)
  | _ => .bad
theorem gStF_ok {gs : List T → Env → Sto → Fl} (h : GsOk gs) : GOk (gStF gs) := fun t r s => by
  unfold gStF
  split
  · split
    · exact h _ _ _
    · rfl
  · rfl
theorem g_star {e1 e2 : Expr} {k : Nat} {p2 : Pos} {gs : List T → Env → Sto → Fl} (B : Bx X N sc) (h : FGs X W ws [e1, e2] gs) (hn : (assignEach [e1, .Starred e2 p2] X.env).length = 2 := by rfl) (hst : (assignEach [e1, .Starred e2 p2] X.env).findIdx? (·.1) = some 1 := by rfl)
    (hm : (assignEach [e1, .Starred e2 p2] X.env).map (·.2) = (assignEach [e1, e2] X.env).map (·.2) := by rfl) : FG X W ws (.Tuple [e1, .Starred e2 p2] k pos) (gStF gs) := by
  refine PGw (pg_star B.calm h hn hst hm) fun v σ H Q ⟨L, r, s, t, hR, hE, hd, hp⟩ => ?_
  unfold gStF at hp
  split at hp
  · next n =>
    split at hp
    · next x xs e0 =>
      obtain ⟨p, vs, rfl, h0, h1, h2⟩ := D.lstE hR hd e0
      cases h2 with
      | cons d1 d2 =>
        rename_i v0 vs0
        refine ⟨p, v0, vs0, rfl, .inl (.inl h1), fun q hq => ?_⟩
        have ex : Ex L H (L ++ [q]) (upd H q (.lst vs0)) := Ex.add hq
        exact ⟨L ++ [q], r, _, _, hR.add (o := .lst xs) hq ⟨vs0, upd_same, d2.mono (Ex.laid hq)⟩, hE.mono ex, .cons (d1.mono ex) (.cons hR.addD .nil), PostG.ex hp ex⟩
    · exact hp.elim
  · exact hp.elim
/-- a, b, c = x, y, z over plain locals -/
def sPar3 (i j l : Nat) (f : Lv) : Sv := fun r s => match f r s with
  | .ok [t, u, v] s => .nx (((r.set i (some t)).set j (some u)).set l (some v)) s
  | .ok _ _ => .bad
  | .exc x s => .ex x r s
  | .bad => .bad
theorem s_par3 {i j l : Nat} {x y z : Str} {px py pz pt : Pos} {kt k2 : Nat} {pt2 : Pos} (B : Bx X N sc) (hi : N[i]? = some x) (hj : N[j]? = some y) (hl : N[l]? = some z) (hij : i ≠ j) (hil : i ≠ l) (hjl : j ≠ l) (hx : sc.names.lookup x = some .local) (hy : sc.names.lookup y = some .local) (hz : sc.names.lookup z = some .local) (ha : FL X W [a, b, c] fl)
    (hw : swappedStores [.Tuple [.Name x px, .Name y py, .Name z pz] kt pt] (.Tuple [a, b, c] k2 pt2) (envS sc) = pure (some [x, y, z])) (hs : swapsWithSole [.Tuple [.Name x px, .Name y py, .Name z pz] kt pt] (.Tuple [a, b, c] k2 pt2) pos.line X.env = pure false := by rfl) :
    FS X W (.Assign [.Tuple [.Name x px, .Name y py, .Name z pz] kt pt] (.Tuple [a, b, c] k2 pt2) pos) (sPar3 i j l fl) := by
  refine PSw (ps_par3 B.calm (B.nd') (B.at hi) (B.at hj) (B.at hl) hij hil hjl (B.loc hx) (B.loc hy) (B.loc hz) ha (B.swS hw) hs) fun Z σ H ⟨L, r, s, hR, hE, hp⟩ => ⟨L, r, s, hR, hE, ?_⟩
  simp only [sPar3] at hp
  cases e : fl r s with
  | ok ts s1 =>
    rw [e] at hp
    match ts, hp with
    | [t, u, v], hp =>
      intro vs L1 H1 x1 R1 d1
      cases d1 with
      | cons h1 q1 =>
        cases q1 with
        | cons h2 q2 =>
          cases q2 with
          | cons h3 q3 =>
            cases q3
            exact ⟨_, _, _, rfl, hp _ L1 H1 x1 R1 ((((hE.mono x1).set h1).set h2).set h3)⟩
    | [], hp => exact hp.elim
    | [_], hp => exact hp.elim
    | [_, _], hp => exact hp.elim
    | _ :: _ :: _ :: _ :: _, hp => exact hp.elim
  | exc x s1 => rw [e] at hp; exact fun c d L' H' y1 y2 y3 => hp c d σ L' H' y1 y2 (hE.mono y1) y3
  | bad => rw [e] at hp; exact hp
end
end Fx

set_option maxRecDepth 100000
set_option maxHeartbeats 2000000
/-! Fx: the law's end. -/
namespace Fx
open PySem PySem.Spec PyProof.Rows L2

section
variable {P : Program} {w : World} {K : PySem.W.Frag} {mg mb : Str → Option Value} {k : Nat} {fa sa : Addr} {fd : FuncData} {x : Str} {z : Shared} {us : List Value} {ns : List Int}
theorem ints_ds {L : List Addr} {H : Hp} : ∀ l : List Int, Ds K mg L H (l.map V.int) (l.map T.int)
  | [] => .nil
  | c :: r => .cons (.int c) (ints_ds r)
theorem rl_empty {H : Hp} : Rl K mg [] ⟨[], 0⟩ H := ⟨rfl, List.nodup_nil, Nat.le_refl _, fun i o h => by simp at h, fun i o h => by simp at h⟩
/-- the law's promise over one abstract heap -/
theorem lawF_core {sp : Sp} {H : Hp} (KX : K.In z.heap) (hns : z.heap.Ns mainGlobals mg) (hb : z.heap.Ns builtinsNs mb) (hbb : ∀ x : Str, x ≠ "__name__" → mb x = bootBuiltins x) (hlim : z.heap.NoLimit) (hg : z.gens = #[])
    (ha : z.heap.get? sa = some { cls := .type "list", data := .seq us.toArray }) (hr : Rm k callerA) (F : ∀ base : Heap, K.In base → base.Ns mainGlobals mg → FnF P w K mg base k fa fd [x] sp) (hbind : ∀ (s : Shared) (u : Value), BindsTo s fd ⟨[u], []⟩ [(x, u)])
    (hsp : sp [.ref sa] H (fun v _ => v = .bl true) fun _ _ _ => False) (hO : ∀ b, H b = none ∨ ∃ o xs, H b = some (.frz o (.lst xs))) (hok : HOk P w H z.heap) (hA : ∀ b, H b ≠ none → b = sa) (hK : H sa ≠ none → K.lookup sa = none) :
    codeAny (model P w) callerA (.call (.ref fa) ⟨[.ref sa], []⟩) (fun r s' => r = .ok (.ret (.bool true)) ∧ OldK z.heap s'.heap ∧ s'.os = z.os ∧ AllBare s'.gens) z := by
  have keepB : ∀ {c : Addr} {ob : Obj}, z.heap.get? c = some ob → H c = none → (hidT z.heap H).get? c = some ob := fun e1 e2 => hidT_get e1 e2
  have dictN : ∀ {c : Addr} {ob : Obj} {es : Array DictEntry} {ep : Nat}, z.heap.get? c = some ob → ob.data = .dict es ep → H c = none := by
    intro c ob es ep e1 e2
    refine Classical.byContradiction fun q => ?_
    obtain rfl := hA c q
    rw [ha] at e1
    cases e1
    exact nomatch (show Data.seq us.toArray _ = Data.dict es ep from e2)
  have nsB : ∀ {c : Addr} {m : Str → Option Value}, z.heap.Ns c m → (hidT z.heap H).Ns c m := by
    rintro c m ⟨ob, es, ep, e1, e2, e3⟩
    exact ⟨ob, es, ep, keepB e1 (dictN e1 e2), e2, e3⟩
  have inB : K.In (hidT z.heap H) := by
    intro c ob e1
    refine keepB (KX c ob e1) (Classical.byContradiction fun q => ?_)
    obtain rfl := hA c q
    rw [hK q] at e1
    cases e1
  have limB : (hidT z.heap H).NoLimit := by
    obtain ⟨mc, e1, e2⟩ := hlim
    exact ⟨mc, nsB e1, e2⟩
  have env : Env0 P w K mg (hidT z.heap H) callerA [] z H := by
    refine ⟨rfl, ⟨inB, nsB hns, ⟨mb, nsB hb, hbb⟩, limB⟩, fun c ob e1 => of_hidT e1, Nat.le_of_eq (hidT_size _ _), trivial, fun c hc => ?_, hok, .of_eq hg⟩
    exact nomatch (show c ∈ ([] : List Addr) from hc)
  have fin := (F _ inB (nsB hns)).runF callerA [] z H ⟨[.ref sa], []⟩ [.ref sa] [.ref sa] _ _ hr env (hbind z (.ref sa)) (.cons rfl .nil) hsp
  refine codeAny_mono fin fun r s' h => ?_
  match r, h with
  | .error e, h =>
    obtain ⟨_, _, _, h⟩ := h
    first
      | exact h.elim
      | (obtain ⟨h1, h2⟩ := h; first | exact h1.elim | exact h2.elim)
      | simp at h
  | .ok (.ret u), h =>
    obtain ⟨v, H', ho, hba, hun, hok', rv, hv⟩ := h
    subst hv
    obtain rfl : u = Value.bool true := rv
    refine ⟨rfl, OldK.of_keep fun c ob e1 => ?_, ho, hba⟩
    cases q : H c with
    | none => exact hun.keep c ob e1 q (fun m => nomatch (show c ∈ ([] : List Addr) from m)) (by simp)
    | some y =>
      rcases hO c with e2 | ⟨o2, xs, e2⟩
      · rw [q] at e2; cases e2
      · obtain ⟨e3, _⟩ := hok c _ e2
        obtain ⟨e4, _⟩ := hok' c _ (hun.frzs c o2 _ e2)
        rw [e1] at e3; cases e3
        exact e4
  | .ok .next, h => exact h.elim
  | .ok .brk, h => exact h.elim
  | .ok .cont, h => exact h.elim
/-- what the law's reading gives at a list of ints that nobody changes -/
theorem sp_of {p : String → Option FnD} {law : String} {H : Hp} (hO : ∀ b, H b = none ∨ ∃ o xs, H b = some (.frz o (.lst xs))) (hS : SqL K H sa (ns.map V.int)) (hl : ∃ s', run p k law [.frz (ns.map T.int)] ⟨[], 0⟩ = .ok (.bl true) s') :
    spF K mg (run p k) law [.ref sa] H (fun v _ => v = .bl true) fun _ _ _ => False := by
  obtain ⟨s', e⟩ := hl
  have fz : FrzAt K H sa (ns.map V.int) := by
    rcases hS with (h | h) | h
    · rcases hO sa with q | ⟨o, xs, q⟩
      · rw [q] at h; cases h
      · rw [q] at h; cases h
    · exact .inl h
    · exact .inr h
  refine ⟨[], _, _, rl_empty, .cons (.frz fz (ints_ds ns)) .nil, ?_⟩
  rw [e]
  intro v L' H' _ _ d
  cases d
  rfl
theorem lawF {p : String → Option FnD} {law : String} (KX : K.In z.heap) (hns : z.heap.Ns mainGlobals mg) (hb : z.heap.Ns builtinsNs mb) (hbb : ∀ x : Str, x ≠ "__name__" → mb x = bootBuiltins x) (hlim : z.heap.NoLimit) (hg : z.gens = #[])
    (ha : z.heap.get? sa = some { cls := .type "list", data := .seq us.toArray }) (hi : IntsAre us ns) (hz : ns.length ≤ sizeLine) (hr : Rm k callerA) (F : ∀ base : Heap, K.In base → base.Ns mainGlobals mg → FnF P w K mg base k fa fd [x] (spF K mg (run p k) law))
    (hbind : ∀ (s : Shared) (u : Value), BindsTo s fd ⟨[u], []⟩ [(x, u)]) (hl : ∃ s', run p k law [.frz (ns.map T.int)] ⟨[], 0⟩ = .ok (.bl true) s') :
    codeAny (model P w) callerA (.call (.ref fa) ⟨[.ref sa], []⟩) (fun r s' => r = .ok (.ret (.bool true)) ∧ OldK z.heap s'.heap ∧ s'.os = z.os ∧ AllBare s'.gens) z := by
  have rv := vals_ints hi
  have hlen := hi.length
  cases hk : K.lookup sa with
  | some o =>
    have e := KX sa o hk
    rw [ha] at e
    cases e
    have hO : ∀ b, (fun _ => none : Hp) b = none ∨ ∃ o xs, (fun _ => none : Hp) b = some (.frz o (.lst xs)) := fun _ => .inl rfl
    have hS : SqL K (fun _ => none) sa (ns.map V.int) := .inr ⟨_, us.toArray, _, hk, rfl, rfl, rfl, by rw [List.size_toArray, hlen]; exact hz, by simpa using rv⟩
    exact lawF_core KX hns hb hbb hlim hg ha hr F hbind (sp_of hO hS hl) hO (fun b u q => nomatch (show (none : Option HO) = some u from q)) (fun b q => absurd rfl q) fun q => absurd rfl q
  | none =>
    obtain ⟨H, eH⟩ : ∃ H : Hp, ∀ b, H b = if b = sa then some (.frz { cls := .type "list", data := .seq us.toArray } (.lst (ns.map V.int))) else none := ⟨_, fun _ => rfl⟩
    have h1 := (eH sa).trans (if_pos rfl)
    have h2 : ∀ b, b ≠ sa → H b = none := fun b hb => (eH b).trans (if_neg hb)
    have hO : ∀ b, H b = none ∨ ∃ o xs, H b = some (.frz o (.lst xs)) := fun b => by
      by_cases c : b = sa
      · rw [c]; exact .inr ⟨_, _, h1⟩
      · exact .inl (h2 b c)
    have hS : SqL K H sa (ns.map V.int) := .inl (.inr ⟨_, h1⟩)
    refine lawF_core KX hns hb hbb hlim hg ha hr F hbind (sp_of hO hS hl) hO (fun b u q => ?_) (fun b q => Classical.byContradiction fun c => q (h2 b c)) fun _ => hk
    by_cases c : b = sa
    · subst c
      rw [h1] at q
      cases q
      exact ⟨ha, by rw [List.length_map]; exact hz, us, _, rv, ha⟩
    · rw [h2 b c] at q; cases q
theorem walk_F {l : PySem.W.OpenLaw} {n : Nat} {q : Program} {loose : List Str} {XP : (Str → Option Value) → Heap → Prop} {YP : World → Heap → Prop} {d : DefRec} {p : String → Option FnD} {law : String} (hn : l.most = some n) (hn2 : n ≤ sizeLine) (hdf : d.params.defaults = []) (hr : Rm k callerA)
    (F : ∀ (w : World) (mg : Str → Option Value) (fa : Addr) (h : Heap), YP w h → h.Ns mainGlobals mg → mg d.name = some (.ref fa) →
      ∃ (K : PySem.W.Frag) (fd : FuncData), K.In h ∧ (∀ (s : Shared) (u : Value), BindsTo s fd ⟨[u], []⟩ [(x, u)]) ∧ ∀ base : Heap, K.In base → base.Ns mainGlobals mg → FnF l.prog w K mg base k fa fd [x] (spF K mg (run p k) law))
    (hl : ∀ ns : List Int, ns.length ≤ n → ∃ s', run p k law [.frz (ns.map T.int)] ⟨[], 0⟩ = .ok (.bl true) s') : PySem.W.WalkO q loose XP YP l.row.toRowW d [] (fun f vs => PySem.call f vs) := by
  refine Att.attach_call hn hdf fun w s₀ s₁ mg mb fa o pm cd doc a vs ns G Y _ _ _ hmg hobj hints hlen hg => ?_
  obtain ⟨K, fd, KX, hb, hF⟩ := F w mg fa _ Y G.T.g hmg
  exact lawF KX G.T.g G.T.b G.T.builtins G.T.nolimit hg hobj hints (Nat.le_trans hlen hn2) hr hF hb (hl ns hlen)
end
end Fx
namespace Fx
open PySem L2 PyProof.Rows
/-- where an expression stands -/
structure Cy (X : Cx) (W : WX) (N : List Str) (sc : Scope) (k : Nat) : Prop where
  B : Bx X N sc
  tk : Takes X W
  rm : Rm k X.A
theorem Ctx.cy {X : Cx} {W : WX} {N : List Str} {sc : Scope} {k : Nat} (c : Ctx X W N sc k) : Cy X W N sc k := ⟨c.B, c.tk, c.rm⟩
theorem takes0 {X : Cx} : Takes X W0 := fun _ _ ⟨_, _, _, _, _, _, _, _, _, _, _, _, _, _, _, _, w⟩ => w.elim
theorem Cy.blk {X : Cx} {W : WX} {N : List Str} {sc : Scope} {k : Nat} (c : Cy X W N sc k) (scope : Scope) (s : Shared) (H : Hp) (C : Addr) (cl : List (Str × Addr)) (fp : List Addr) : Cy (X.blk s H scope (compEnvC scope cl C X.env) fp) W0 N (relS scope sc) k :=
  ⟨⟨c.B.hN, by rw [← c.B.hs]; rfl, c.B.nd, c.B.calm⟩, takes0, c.rm⟩
theorem Cy.hu {X : Cx} {W : WX} {N : List Str} {sc : Scope} {k : Nat} (c : Cy X W N sc k) : X.A.units + 64 < cLine := c.rm.room.units
theorem Cy.hu1 {X : Cx} {W : WX} {N : List Str} {sc : Scope} {k : Nat} (c : Cy X W N sc k) : X.A.units + 1 < cLine := by have := c.hu; omega
/-- what a call's arguments made goes too -/
def eG (f : Ev) : Ev := fun r s => gcR s.len s.kp (f r s)
theorem r_G {X : Cx} {W : WX} {e : Expr} {f : Ev} (h : FE X W e f) : FE X W e (eG f) := r_gc h
theorem FW.fb {X : Cx} {W : WX} {e : Expr} {f : Bv} (h : FW X W e f) : FB X W e f := PW.pt h
/-- a def at level 0 promises nothing -/
theorem fnF_zero {P : Program} {w : World} {K : PySem.W.Frag} {mg : Str → Option Value} {base : Heap} {a : Addr} {fd : FuncData} {ps : List Str} {p : String → Option FnD} {f : String} : FnF P w K mg base 0 a fd ps (spF K mg (run p 0) f) :=
  ⟨fun vs H Q E ⟨_, _, _, _, _, h⟩ => h.elim, fun A b s H args us vs Q E _ _ _ _ ⟨_, _, _, _, _, h⟩ => h.elim⟩
end Fx

set_option maxRecDepth 100000
set_option maxHeartbeats 2000000
/-! Fx: evaluation step by step (printed by mkeval.py). -/
namespace Fx
open PySem L2 PyProof.Rows
noncomputable section

variable {f g h : Ev} {l : Lv} {a b c : Ev} {r : Env} {s : Sto} {x y : T} {ts us : List T} {C : CallT} {fn : String} {k : Bool}
variable {op oq : T → T → Sto → OV} {u : T → Sto → OV} {hf : List T → Sto → OV} {ba bb : Bv} {sa sb : Sv} {gg : Gv} {gs : List T → Env → Sto → Fl} {it : Iv} {chk : Sto → Bool} {mg : T → List T → Sto → OV} {p q : Pv} {i j m n : Nat} {o : Option Int} {z : Str} {ex : Exn}
def eVar1 (s : Sto) : Option (Option T) → Out
  | some (some t) => .ok t s
  | _ => .bad
theorem ev_var  : eVar i r s = eVar1 s r[i]? := by unfold eVar eVar1; rfl
theorem ev_var1  : eVar1 s (some (some x)) = .ok x s := rfl
theorem ev_c  : eC x r s = .ok x s := rfl
def vO  : OV → Out
  | some (t, s) => .ok t s
  | none => .bad
theorem ev_vout  : vOut (some (x, s)) = .ok x s := rfl
def eBin1 (op : T → T → Sto → OV) (b : Ev) (r : Env) : Out → Out
  | .ok x s => (b r s).bnd fun y s => vOut (op x y s)
  | .exc x s => .exc x s
  | .bad => .bad
def eBin2 (op : T → T → Sto → OV) (x : T) : Out → Out
  | .ok y s => vOut (op x y s)
  | .exc x s => .exc x s
  | .bad => .bad
theorem ev_bin  : eBin op a b r s = eBin1 op b r (a r s) := by unfold eBin eBin1 Out.bnd; cases a r s <;> rfl
theorem ev_bin1  : eBin1 op b r (.ok x s) = eBin2 op x (b r s) := by show (b r s).bnd (fun y s => vOut (op x y s)) = _; cases b r s <;> rfl
theorem ev_bin2  : eBin2 op x (.ok y s) = vOut (op x y s) := rfl
def eUn1 (u : T → Sto → OV) : Out → Out
  | .ok x s => vOut (u x s)
  | .exc x s => .exc x s
  | .bad => .bad
theorem ev_un  : eUn u a r s = eUn1 u (a r s) := by unfold eUn eUn1 Out.bnd; cases a r s <;> rfl
theorem ev_un1  : eUn1 u (.ok x s) = vOut (u x s) := rfl
theorem ev_lnil  : lNil r s = .ok [] s := rfl
def lCons2 (x : T) : OutL → OutL
  | .ok xs s => .ok (x :: xs) s
  | .exc x s => .exc x s
  | .bad => .bad
def lCons1 (l : Lv) (r : Env) : Out → OutL
  | .ok x s => lCons2 x (l r s)
  | .exc x s => .exc x s
  | .bad => .bad
theorem ev_lcons  : lCons a l r s = lCons1 l r (a r s) := by unfold lCons lCons1 Out.bndL; cases a r s with | ok x s => (unfold lCons2 OutL.bndL; cases l r s <;> rfl) | exc => rfl | bad => rfl
theorem ev_lcons1  : lCons1 l r (.ok x s) = lCons2 x (l r s) := rfl
theorem ev_lcons2  : lCons2 x (.ok ts s) = .ok (x :: ts) s := rfl
def lDef1 (ds : List T) : OutL → OutL
  | .ok xs s => .ok (xs ++ ds) s
  | .exc x s => .exc x s
  | .bad => .bad
theorem ev_ldef  : lDef l us r s = lDef1 us (l r s) := by unfold lDef lDef1 OutL.bndL; cases l r s <;> rfl
theorem ev_ldef1  : lDef1 us (.ok ts s) = .ok (ts ++ us) s := rfl
def lStar2 (xs : List T) : OutL → OutL
  | .ok ys s => .ok (xs ++ ys) s
  | .exc x s => .exc x s
  | .bad => .bad
def lStar1b (l : Lv) (r : Env) (s : Sto) : Option (List T) → OutL
  | some xs => lStar2 xs (l r s)
  | none => .bad
def lStar1 (l : Lv) (r : Env) : Out → OutL
  | .ok x s => lStar1b l r s (itemsT s x)
  | .exc x s => .exc x s
  | .bad => .bad
theorem ev_lstar  : lStar a l r s = lStar1 l r (a r s) := by unfold lStar lStar1 Out.bndL; cases a r s with | ok x s => (simp only; cases itemsT s x with | some xs => (simp only [lStar1b]; unfold lStar2 OutL.bndL; cases l r s <;> rfl) | none => rfl) | exc => rfl | bad => rfl
theorem ev_lstar1  : lStar1 l r (.ok x s) = lStar1b l r s (itemsT s x) := rfl
theorem ev_lstar1b  : lStar1b l r s (some ts) = lStar2 ts (l r s) := rfl
theorem ev_lstar2  : lStar2 ts (.ok us s) = .ok (ts ++ us) s := rfl
def eTup1  : OutL → Out
  | .ok ts s => if ts.length ≤ sizeLine then .ok (.tup ts) s else .bad
  | .exc x s => .exc x s
  | .bad => .bad
theorem ev_tup  : eTup l r s = eTup1 (l r s) := by unfold eTup eTup1 OutL.bnd; cases l r s <;> rfl
theorem ev_tup1 (hz : ts.length ≤ sizeLine) : eTup1 (.ok ts s) = .ok (.tup ts) s := if_pos hz
def eLst1  : OutL → Out
  | .ok ts s => if ts.length ≤ sizeLine then .ok (.loc s.len) (s.add (.lst ts)) else .bad
  | .exc x s => .exc x s
  | .bad => .bad
theorem ev_lst  : eLst l r s = eLst1 (l r s) := by unfold eLst eLst1 OutL.bnd; cases l r s <;> rfl
theorem ev_lst1 (hz : ts.length ≤ sizeLine) : eLst1 (.ok ts s) = .ok (.loc s.len) (s.add (.lst ts)) := if_pos hz
def lChk1  : OutL → OutL
  | .ok ts s => if ts.length ≤ sizeLine then .ok ts s else .bad
  | .exc x s => .exc x s
  | .bad => .bad
theorem ev_lchk  : lChk l r s = lChk1 (l r s) := by unfold lChk lChk1 OutL.bndL; cases l r s <;> rfl
theorem ev_lchk1 (hz : ts.length ≤ sizeLine) : lChk1 (.ok ts s) = .ok ts s := if_pos hz
def eCall1 (C : CallT) (fn : String) : OutL → Out
  | .ok ts s => C fn ts s
  | .exc x s => .exc x s
  | .bad => .bad
theorem ev_call  : eCall C fn l r s = eCall1 C fn (l r s) := by unfold eCall eCall1 OutL.bnd; cases l r s <;> rfl
theorem ev_call1  : eCall1 C fn (.ok ts s) = C fn ts s := rfl
theorem ev_g  : eG f r s = gcR s.len s.kp (f r s) := rfl
def eB1 (hf : List T → Sto → OV) : OutL → Out
  | .ok ts s => vOut (hf ts s)
  | .exc x s => .exc x s
  | .bad => .bad
theorem ev_b  : eB hf l r s = eB1 hf (l r s) := by unfold eB eB1 OutL.bnd; cases l r s <;> rfl
theorem ev_b1  : eB1 hf (.ok ts s) = vOut (hf ts s) := rfl
def eTmp1 (hf : List T → Sto → OV) : OutL → Out
  | .ok ts s => vOut (hf ts s)
  | .exc x s => .exc x s
  | .bad => .bad
theorem ev_tmp  : eTmp hf l r s = eTmp1 hf (l r s) := by unfold eTmp eTmp1 OutL.bnd; cases l r s <;> rfl
theorem ev_tmp1  : eTmp1 hf (.ok ts s) = vOut (hf ts s) := rfl
def eComp1  : OutL → Out
  | .ok ts s => .ok (.loc s.len) (s.add (.lst ts))
  | .exc x s => .exc x s
  | .bad => .bad
theorem ev_comp  : eComp l r s = eComp1 (l r s) := by unfold eComp eComp1 OutL.bnd; cases l r s <;> rfl
theorem ev_comp1  : eComp1 (.ok ts s) = .ok (.loc s.len) (s.add (.lst ts)) := rfl
def eIf1 (a b : Ev) (r : Env) : OutB → Out
  | .ok k s => if k = true then a r s else b r s
  | .exc x s => .exc x s
  | .bad => .bad
theorem ev_if  : eIf ba a b r s = eIf1 a b r (ba r s) := by unfold eIf eIf1 OutB.bnd; cases ba r s <;> rfl
theorem ev_if1t  : eIf1 a b r (.ok true s) = a r s := rfl
theorem ev_if1f  : eIf1 a b r (.ok false s) = b r s := rfl
def bT2 (s : Sto) : Option Bool → OutB
  | some k => .ok k s
  | none => .bad
def bT1  : Out → OutB
  | .ok x s => bT2 s (tru x s)
  | .exc x s => .exc x s
  | .bad => .bad
theorem ev_bt  : bT a r s = bT1 (a r s) := by unfold bT bT1 Out.bndB; cases a r s with | ok x s => (simp only; cases tru x s <;> rfl) | exc => rfl | bad => rfl
theorem ev_bt1  : bT1 (.ok x s) = bT2 s (tru x s) := rfl
theorem ev_bt2  : bT2 s (some k) = .ok k s := rfl
def bV1  : Out → OutB
  | .ok (.bl k) s => .ok k s
  | .exc x s => .exc x s
  | _ => .bad
theorem ev_bv  : bV a r s = bV1 (a r s) := by unfold bV bV1 Out.bndB; cases a r s with | ok x s => cases x <;> rfl | exc => rfl | bad => rfl
theorem ev_bv1  : bV1 (.ok (.bl k) s) = .ok k s := rfl
def bNot1  : OutB → OutB
  | .ok k s => .ok (!k) s
  | .exc x s => .exc x s
  | .bad => .bad
theorem ev_bnot  : bNot ba r s = bNot1 (ba r s) := by unfold bNot bNot1 OutB.bndB; cases ba r s <;> rfl
theorem ev_bnot1  : bNot1 (.ok k s) = .ok (!k) s := rfl
def bAnd1 (bb : Bv) (r : Env) : OutB → OutB
  | .ok k s => if k = true then bb r s else .ok false s
  | .exc x s => .exc x s
  | .bad => .bad
theorem ev_band  : bAnd ba bb r s = bAnd1 bb r (ba r s) := by unfold bAnd bAnd1 OutB.bndB; cases ba r s <;> rfl
theorem ev_band1t  : bAnd1 bb r (.ok true s) = bb r s := rfl
theorem ev_band1f  : bAnd1 bb r (.ok false s) = .ok false s := rfl
def bOr1 (bb : Bv) (r : Env) : OutB → OutB
  | .ok k s => if k = true then .ok true s else bb r s
  | .exc x s => .exc x s
  | .bad => .bad
theorem ev_bor  : bOr ba bb r s = bOr1 bb r (ba r s) := by unfold bOr bOr1 OutB.bndB; cases ba r s <;> rfl
theorem ev_bor1t  : bOr1 bb r (.ok true s) = .ok true s := rfl
theorem ev_bor1f  : bOr1 bb r (.ok false s) = bb r s := rfl
theorem ev_byes  : bYes r s = .ok true s := rfl
def eAnd2 (b : Ev) (r : Env) (x : T) (s : Sto) : Option Bool → Out
  | some k => if k = true then b r s else .ok x s
  | none => .bad
def eAnd1 (b : Ev) (r : Env) : Out → Out
  | .ok x s => eAnd2 b r x s (tru x s)
  | .exc x s => .exc x s
  | .bad => .bad
theorem ev_eand  : eAnd a b r s = eAnd1 b r (a r s) := by unfold eAnd eAnd1 Out.bnd; cases a r s with | ok x s => (simp only; cases tru x s <;> rfl) | exc => rfl | bad => rfl
theorem ev_eand1  : eAnd1 b r (.ok x s) = eAnd2 b r x s (tru x s) := rfl
theorem ev_eand2t  : eAnd2 b r x s (some true) = b r s := rfl
theorem ev_eand2f  : eAnd2 b r x s (some false) = .ok x s := rfl
def eOr2 (b : Ev) (r : Env) (x : T) (s : Sto) : Option Bool → Out
  | some k => if k = true then .ok x s else b r s
  | none => .bad
def eOr1 (b : Ev) (r : Env) : Out → Out
  | .ok x s => eOr2 b r x s (tru x s)
  | .exc x s => .exc x s
  | .bad => .bad
theorem ev_eor  : eOr a b r s = eOr1 b r (a r s) := by unfold eOr eOr1 Out.bnd; cases a r s with | ok x s => (simp only; cases tru x s <;> rfl) | exc => rfl | bad => rfl
theorem ev_eor1  : eOr1 b r (.ok x s) = eOr2 b r x s (tru x s) := rfl
theorem ev_eor2t  : eOr2 b r x s (some true) = .ok x s := rfl
theorem ev_eor2f  : eOr2 b r x s (some false) = b r s := rfl
def eNot2 (s : Sto) : Option Bool → Out
  | some k => .ok (.bl (!k)) s
  | none => .bad
def eNot1  : Out → Out
  | .ok x s => eNot2 s (tru x s)
  | .exc x s => .exc x s
  | .bad => .bad
theorem ev_enot  : eNot a r s = eNot1 (a r s) := by unfold eNot eNot1 Out.bnd; cases a r s with | ok x s => (simp only; cases tru x s <;> rfl) | exc => rfl | bad => rfl
theorem ev_enot1  : eNot1 (.ok x s) = eNot2 s (tru x s) := rfl
theorem ev_enot2  : eNot2 s (some k) = .ok (.bl (!k)) s := rfl
def eCh4 (oq : T → T → Sto → OV) (y : T) : Out → Out
  | .ok z s => vOut (oq y z s)
  | .exc x s => .exc x s
  | .bad => .bad
def eCh3 (oq : T → T → Sto → OV) (c : Ev) (r : Env) (y : T) : OV → Out
  | some (.bl k, s) => if k = true then eCh4 oq y (c r s) else .ok (.bl false) s
  | _ => .bad
def eCh2 (op oq : T → T → Sto → OV) (c : Ev) (r : Env) (x : T) : Out → Out
  | .ok y s => eCh3 oq c r y (op x y s)
  | .exc x s => .exc x s
  | .bad => .bad
def eCh1 (op oq : T → T → Sto → OV) (b c : Ev) (r : Env) : Out → Out
  | .ok x s => eCh2 op oq c r x (b r s)
  | .exc x s => .exc x s
  | .bad => .bad
theorem ev_ch  : eChain op oq a b c r s = eCh1 op oq b c r (a r s) := by
  unfold eChain eCh1 Out.bnd
  cases a r s with
  | ok x s =>
    simp only
    unfold eCh2
    cases b r s with
    | ok y s =>
      simp only
      unfold eCh3 eCh4
      cases op x y s with
      | none => rfl
      | some q =>
        obtain ⟨t, s⟩ := q
        cases t with
        | bl k => cases k <;> (simp only [if_true] <;> first | rfl | (cases c r s <;> rfl))
        | _ => rfl
    | exc => rfl
    | bad => rfl
  | exc => rfl
  | bad => rfl
theorem ev_ch1  : eCh1 op oq b c r (.ok x s) = eCh2 op oq c r x (b r s) := rfl
theorem ev_ch2  : eCh2 op oq c r x (.ok y s) = eCh3 oq c r y (op x y s) := rfl
theorem ev_ch3t  : eCh3 oq c r y (some (.bl true, s)) = eCh4 oq y (c r s) := rfl
theorem ev_ch3f  : eCh3 oq c r y (some (.bl false, s)) = .ok (.bl false) s := rfl
theorem ev_ch4  : eCh4 oq y (.ok x s) = vOut (oq y x s) := rfl
def eM3 (mg : T → List T → Sto → OV) (x : T) : OutL → Out
  | .ok ts s => vOut (mg x ts s)
  | .exc x s => .exc x s
  | .bad => .bad
def eM2 (mg : T → List T → Sto → OV) (l : Lv) (r : Env) (x : T) (s : Sto) : Bool → Out
  | true => eM3 mg x (l r s)
  | false => .bad
def eM1 (T0 : String) (mg : T → List T → Sto → OV) (l : Lv) (r : Env) : Out → Out
  | .ok x s => eM2 mg l r x s (isTy T0 x s)
  | .exc x s => .exc x s
  | .bad => .bad
theorem ev_m {T0 : String} : eM T0 mg a l r s = eM1 T0 mg l r (a r s) := by
  unfold eM eM1 Out.bnd
  cases a r s with
  | ok x s =>
    simp only
    cases isTy T0 x s with
    | true => (simp only [if_true, eM2]; unfold eM3 OutL.bnd; cases l r s <;> rfl)
    | false => rfl
  | exc => rfl
  | bad => rfl
theorem ev_m1 {T0 : String} : eM1 T0 mg l r (.ok x s) = eM2 mg l r x s (isTy T0 x s) := rfl
theorem ev_m2  : eM2 mg l r x s true = eM3 mg x (l r s) := rfl
theorem ev_m3  : eM3 mg x (.ok ts s) = vOut (mg x ts s) := rfl
def eJo2 (z : Str) : OutL → Out
  | .ok ts s => vOut (joinT z ts s)
  | .exc x s => .exc x s
  | .bad => .bad
def eJo1 (l : Lv) (r : Env) : Out → Out
  | .ok (.str z) s => eJo2 z (l r s)
  | .exc x s => .exc x s
  | _ => .bad
theorem ev_jo  : eJoin a l r s = eJo1 l r (a r s) := by
  unfold eJoin eJo1 Out.bnd
  cases a r s with
  | ok x s => cases x with
    | str z => (simp only; unfold eJo2 OutL.bnd; cases l r s <;> rfl)
    | _ => rfl
  | exc => rfl
  | bad => rfl
theorem ev_jo1  : eJo1 l r (.ok (.str z) s) = eJo2 z (l r s) := rfl
theorem ev_jo2  : eJo2 z (.ok ts s) = vOut (joinT z ts s) := rfl
def jF1 (q : List Ev) (acc : Str) (r : Env) : Out → Out
  | .ok (.str y) s => if (acc ++ y).length ≤ sizeLine then joinF q (acc ++ y) r s else .bad
  | .exc x s => .exc x s
  | _ => .bad
theorem ev_fs {l : List Ev} : eFs l r s = joinF l Str.empty r s := rfl
theorem ev_jfn  : joinF [] z r s = .ok (.str z) s := rfl
theorem ev_jfc {l : List Ev} : joinF (f :: l) z r s = jF1 l z r (f r s) := by
  unfold joinF jF1 Out.bnd
  cases f r s with
  | ok x s => cases x <;> rfl
  | exc => rfl
  | bad => rfl
theorem ev_jf1 {l : List Ev} {w : Str} (hz : (z ++ w).length ≤ sizeLine) : jF1 l z r (.ok (.str w) s) = joinF l (z ++ w) r s := if_pos hz
abbrev KvO := Option (List (Key × T) × Sto)
def lKv3 (tk tv : T) : KvO → KvO
  | some (kvs, s) => (match keyT tk with | some key => some ((key, tv) :: kvs, s) | none => none)
  | none => none
def lKv2 (tk : T) (q : List (Ev × Ev)) (r : Env) : Out → KvO
  | .ok tv s => lKv3 tk tv (lKv q r s)
  | _ => none
def lKv1 (v : Ev) (q : List (Ev × Ev)) (r : Env) : Out → KvO
  | .ok tk s => lKv2 tk q r (v r s)
  | _ => none
def eDct1 : KvO → Out
  | some (kvs, s) => if kvs.length ≤ 15 then .ok (.loc s.len) (s.add (.dct (dMerge [] kvs))) else .bad
  | none => .bad
theorem ev_dct {d : List (Ev × Ev)} : eDct d r s = eDct1 (lKv d r s) := by unfold eDct eDct1; cases lKv d r s <;> rfl
theorem ev_kvn  : lKv [] r s = some ([], s) := rfl
theorem ev_kvc {d : List (Ev × Ev)} : lKv ((a, b) :: d) r s = lKv1 b d r (a r s) := by
  unfold lKv lKv1
  cases a r s with
  | ok x s =>
    simp only
    unfold lKv2
    cases b r s with
    | ok y s => (simp only; unfold lKv3; cases lKv d r s <;> rfl)
    | _ => rfl
  | _ => rfl
theorem ev_kv1 {d : List (Ev × Ev)} : lKv1 b d r (.ok x s) = lKv2 x d r (b r s) := rfl
theorem ev_kv2 {d : List (Ev × Ev)} : lKv2 x d r (.ok y s) = lKv3 x y (lKv d r s) := rfl
theorem ev_kv3 {kvs : List (Key × T)} : lKv3 (.str z) y (some (kvs, s)) = some ((.inr z, y) :: kvs, s) := rfl
theorem ev_dct1 {kvs : List (Key × T)} (hz : kvs.length ≤ 15) : eDct1 (some (kvs, s)) = .ok (.loc s.len) (s.add (.dct (dMerge [] kvs))) := if_pos hz
def pS1  : Out → Option (Option Int × Sto)
  | .ok (.int i) s => some (some i, s)
  | _ => none
theorem ev_pn  : pNone r s = some (none, s) := rfl
theorem ev_ps  : pSome a r s = pS1 (a r s) := by unfold pSome pS1; rfl
theorem ev_ps1 {i : Int} : pS1 (.ok (.int i) s) = some (some i, s) := rfl
def eSl3 (x : T) (l : Option Int) : Option (Option Int × Sto) → Out
  | some (h, s) => vOut (slT x l h s)
  | none => .bad
def eSl2 (x : T) (q : Pv) (r : Env) : Option (Option Int × Sto) → Out
  | some (l, s) => eSl3 x l (q r s)
  | none => .bad
def eSl1 (p q : Pv) (r : Env) : Out → Out
  | .ok x s => eSl2 x q r (p r s)
  | .exc x s => .exc x s
  | .bad => .bad
theorem ev_sl  : eSl a p q r s = eSl1 p q r (a r s) := by
  unfold eSl eSl1 Out.bnd
  cases a r s with
  | ok x s =>
    simp only
    unfold eSl2
    cases p r s with
    | some w => (obtain ⟨l, s⟩ := w; simp only; unfold eSl3; cases q r s <;> rfl)
    | none => rfl
  | exc => rfl
  | bad => rfl
theorem ev_sl1  : eSl1 p q r (.ok x s) = eSl2 x q r (p r s) := rfl
theorem ev_sl2  : eSl2 x q r (some (o, s)) = eSl3 x o (q r s) := rfl
theorem ev_sl3 {o2 : Option Int} : eSl3 x o (some (o2, s)) = vOut (slT x o o2 s) := rfl
theorem ev_snil  : sNil r s = .nx r s := rfl
def sSeq1 (b : Sv) : Fl → Fl
  | .nx r s => b r s
  | .rt t s => .rt t s
  | .bk r s => .bk r s
  | .ct r s => .ct r s
  | .ex x r s => .ex x r s
  | .bad => .bad
theorem ev_seq  : sSeq sa sb r s = sSeq1 sb (sa r s) := by unfold sSeq sSeq1; cases sa r s <;> rfl
theorem ev_seqn  : sSeq1 sb (.nx r s) = sb r s := rfl
theorem ev_seqr  : sSeq1 sb (.rt x s) = .rt x s := rfl
theorem ev_seqb  : sSeq1 sb (.bk r s) = .bk r s := rfl
theorem ev_seqc  : sSeq1 sb (.ct r s) = .ct r s := rfl
theorem ev_seqx  : sSeq1 sb (.ex ex r s) = .ex ex r s := rfl
def sEx1 (r : Env) : Out → Fl
  | .ok t s => .nx r s
  | .exc x s => .ex x r s
  | .bad => .bad
theorem ev_sex  : sEx a r s = sEx1 r (a r s) := by unfold sEx sEx1 Out.bndS; cases a r s <;> rfl
theorem ev_sex1  : sEx1 r (.ok x s) = .nx r s := rfl
def sRet1 (r : Env) : Out → Fl
  | .ok t s => .rt t s
  | .exc x s => .ex x r s
  | .bad => .bad
theorem ev_ret  : sRet a r s = sRet1 r (a r s) := by unfold sRet sRet1 Out.bndS; cases a r s <;> rfl
theorem ev_ret1  : sRet1 r (.ok x s) = .rt x s := rfl
theorem ev_retn  : sRetN r s = .rt .non s := rfl
def sIf1 (a b : Sv) (r : Env) : OutB → Fl
  | .ok k s => if k = true then a r s else b r s
  | .exc x s => .ex x r s
  | .bad => .bad
theorem ev_sif  : sIf ba sa sb r s = sIf1 sa sb r (ba r s) := by unfold sIf sIf1 OutB.bndS; cases ba r s <;> rfl
theorem ev_sif1t  : sIf1 sa sb r (.ok true s) = sa r s := rfl
theorem ev_sif1f  : sIf1 sa sb r (.ok false s) = sb r s := rfl
theorem ev_brk  : sBrk r s = .bk r s := rfl
theorem ev_cnt  : sCnt r s = .ct r s := rfl
def sAsg1 (g : Gv) (r : Env) : Out → Fl
  | .ok t s => g t r s
  | .exc x s => .ex x r s
  | .bad => .bad
theorem ev_asg  : sAsg a gg r s = sAsg1 gg r (a r s) := by unfold sAsg sAsg1 Out.bndS; cases a r s <;> rfl
theorem ev_asg1  : sAsg1 gg r (.ok x s) = gg x r s := rfl
theorem ev_gnm  : gNm i x r s = .nx (r.set i (some x)) s := rfl
theorem ev_gnil  : gsNil [] r s = .nx r s := rfl
def gsCons1 (gs : List T → Env → Sto → Fl) (q : List T) : Fl → Fl
  | .nx r s => gs q r s
  | .ex x r s => .ex x r s
  | _ => .bad
theorem ev_gcons  : gsCons gg gs (x :: ts) r s = gsCons1 gs ts (gg x r s) := by unfold gsCons gsCons1; simp only <;> cases gg x r s <;> rfl
theorem ev_gcons1  : gsCons1 gs ts (.nx r s) = gs ts r s := rfl
theorem ev_gtp (hl : ts.length = n) : gTp n gs (.tup ts) r s = gs ts r s := if_pos hl
def gSt1 (gs : List T → Env → Sto → Fl) (r : Env) (s : Sto) : Option O → Fl
  | some (.lst (x :: xs)) => gs [x, .loc s.len] r (s.add (.lst xs))
  | _ => .bad
theorem ev_gst  : gStF gs (.loc n) r s = gSt1 gs r s (s.get n) := by unfold gStF gSt1; rfl
theorem ev_gst1  : gSt1 gs r s (some (.lst (x :: ts))) = gs [x, .loc s.len] r (s.add (.lst ts)) := rfl
def gSub3 (r : Env) : Option Sto → Fl
  | some s => .nx r s
  | none => .bad
def gSub2 (x t : T) (r : Env) : Out → Fl
  | .ok y s => gSub3 r (setT x y t s)
  | _ => .bad
def gSub1 (b : Ev) (t : T) (r : Env) : Out → Fl
  | .ok x s => gSub2 x t r (b r s)
  | _ => .bad
theorem ev_gsub  : gSubF a b x r s = gSub1 b x r (a r s) := by
  unfold gSubF gSub1
  cases a r s with
  | ok w s =>
    simp only
    unfold gSub2
    cases b r s with
    | ok y s => (simp only; unfold gSub3; cases setT w y x s <;> rfl)
    | _ => rfl
  | _ => rfl
theorem ev_gsub1  : gSub1 b x r (.ok y s) = gSub2 y x r (b r s) := rfl
theorem ev_gsub2 {w : T} : gSub2 x y r (.ok w s) = gSub3 r (setT x w y s) := rfl
theorem ev_gsub3  : gSub3 r (some s) = .nx r s := rfl
def sPar1 (i j : Nat) (r : Env) : OutL → Fl
  | .ok [t, u] s => .nx ((r.set i (some t)).set j (some u)) s
  | .exc x s => .ex x r s
  | _ => .bad
theorem ev_par  : sPar i j l r s = sPar1 i j r (l r s) := by unfold sPar sPar1; cases l r s with | ok ts s => (match ts with | [] => rfl | [_] => rfl | [_, _] => rfl | _ :: _ :: _ :: _ => rfl) | exc => rfl | bad => rfl
theorem ev_par1  : sPar1 i j r (.ok [x, y] s) = .nx ((r.set i (some x)).set j (some y)) s := rfl
def sParT1 (i j l : Nat) (r : Env) : OutL → Fl
  | .ok [t, u, v] s => .nx (((r.set i (some t)).set j (some u)).set l (some v)) s
  | .exc x s => .ex x r s
  | _ => .bad
theorem ev_par3  : sPar3 i j n l r s = sParT1 i j n r (l r s) := by unfold sPar3 sParT1; cases l r s with | ok ts s => (match ts with | [] => rfl | [_] => rfl | [_, _] => rfl | [_, _, _] => rfl | _ :: _ :: _ :: _ :: _ => rfl) | exc => rfl | bad => rfl
theorem ev_par31 {w : T} : sParT1 i j n r (.ok [x, y, w] s) = .nx (((r.set i (some x)).set j (some y)).set n (some w)) s := rfl
def sAug3 (i : Nat) (r : Env) : OV → Fl
  | some (z, s) => .nx (r.set i (some z)) s
  | none => .bad
def sAug2 (i : Nat) (op : T → T → Sto → OV) (x : T) (r : Env) : Out → Fl
  | .ok y s => sAug3 i r (op x y s)
  | .exc x s => .ex x r s
  | .bad => .bad
def sAug1 (i : Nat) (op : T → T → Sto → OV) (a : Ev) (r : Env) (s : Sto) : Option (Option T) → Fl
  | some (some x) => sAug2 i op x r (a r s)
  | _ => .bad
theorem ev_aug  : sAug i op a r s = sAug1 i op a r s r[i]? := by
  unfold sAug
  generalize r[i]? = og
  match og with
  | some (some x) =>
    show ((a r s).bndS r fun y s => _) = sAug2 i op x r (a r s)
    cases a r s with
    | ok y s =>
      show _ = sAug3 i r (op x y s)
      simp only [Out.bndS]
      cases op x y s <;> rfl
    | exc => rfl
    | bad => rfl
  | some none => rfl
  | none => rfl
theorem ev_aug1  : sAug1 i op a r s (some (some x)) = sAug2 i op x r (a r s) := rfl
theorem ev_aug2  : sAug2 i op x r (.ok y s) = sAug3 i r (op x y s) := rfl
theorem ev_aug3  : sAug3 i r (some (x, s)) = .nx (r.set i (some x)) s := rfl
def sFor1 (g : Gv) (b : Sv) (r : Env) : OutI → Fl
  | .ok ts chk s => forL chk g b ts r s
  | .exc x s => .ex x r s
  | .bad => .bad
theorem ev_for  : sFor it gg sb r s = sFor1 gg sb r (it r s) := by unfold sFor sFor1; cases it r s <;> rfl
theorem ev_for1  : sFor1 gg sb r (.ok ts chk s) = forL chk gg sb ts r s := rfl
def lComp1 (g : Gv) (c : Bv) (e : Ev) (vs : List Nat) (r : Env) : OutI → OutL
  | .ok ts chk s => compL chk g c e (wip r vs) ts [] s
  | .exc x s => .exc x s
  | .bad => .bad
theorem ev_lcomp {vs : List Nat} : lComp it gg ba a vs r s = lComp1 gg ba a vs r (it r s) := by unfold lComp lComp1; cases it r s <;> rfl
theorem ev_lcomp1 {vs : List Nat} : lComp1 gg ba a vs r (.ok ts chk s) = compL chk gg ba a (wip r vs) ts [] s := rfl
theorem ev_wipn  : wip r [] = r := rfl
theorem ev_wipc {vs : List Nat} : wip r (i :: vs) = (wip r vs).set i none := rfl
def iSeq1  : Out → OutI
  | .ok x s => seqI x s
  | .exc x s => .exc x s
  | .bad => .bad
theorem ev_iseq  : iSeq a r s = iSeq1 (a r s) := by unfold iSeq iSeq1 Out.bndI; cases a r s <;> rfl
theorem ev_iseq1  : iSeq1 (.ok x s) = seqI x s := rfl
theorem ev_seqt  : seqI (.tup ts) s = .ok ts chkT s := rfl
theorem ev_seqf  : seqI (.frz ts) s = .ok ts chkT s := rfl
theorem ev_seqs  : seqI (.str z) s = .ok (signs z) chkT s := rfl
def seqI1 (n : Nat) (s : Sto) : Option O → OutI
  | some (.lst ts) => .ok ts (chkL n ts) s
  | _ => .bad
theorem ev_seql  : seqI (.loc n) s = seqI1 n s (s.get n) := by unfold seqI seqI1; rfl
theorem ev_seql1  : seqI1 n s (some (.lst ts)) = .ok ts (chkL n ts) s := rfl
def iRg11  : OutL → OutI
  | .ok [.int j] s => if okR j = true then .ok (rgT 0 j) chkT s else .bad
  | .exc x s => .exc x s
  | _ => .bad
theorem ev_rg1  : iRg1 l r s = iRg11 (l r s) := by unfold iRg1 iRg11 OutL.bndI; cases l r s with | ok ts s => (match ts with | [] => rfl | [t] => cases t <;> rfl | t :: _ :: _ => cases t <;> rfl) | exc => rfl | bad => rfl
theorem ev_rg11 {j : Int} (hz : okR j = true) : iRg11 (.ok [.int j] s) = .ok (rgT 0 j) chkT s := if_pos hz
def iRg21  : OutL → OutI
  | .ok [.int i, .int j] s => if okR i = true ∧ okR j = true then .ok (rgT i j) chkT s else .bad
  | .exc x s => .exc x s
  | _ => .bad
theorem ev_rg2  : iRg2 l r s = iRg21 (l r s) := by unfold iRg2 iRg21 OutL.bndI; cases l r s with | ok ts s => (match ts with | [] => rfl | [t] => cases t <;> rfl | [t, u] => (cases t <;> (first | rfl | (cases u <;> rfl))) | t :: u :: _ :: _ => (cases t <;> (first | rfl | (cases u <;> rfl)))) | exc => rfl | bad => rfl
theorem ev_rg21 {i j : Int} (hz : okR i = true ∧ okR j = true) : iRg21 (.ok [.int i, .int j] s) = .ok (rgT i j) chkT s := if_pos hz
def iEn2 (s : Sto) : Option (List T × (Sto → Bool)) → OutI
  | some (us, chk) => .ok ((enumP us).map fun p => T.tup [p.1, p.2]) chk s
  | none => .bad
def iEn1  : OutL → OutI
  | .ok [x] s => iEn2 s (lstI x s)
  | .exc x s => .exc x s
  | _ => .bad
theorem ev_en  : iEn l r s = iEn1 (l r s) := by unfold iEn iEn1 OutL.bndI; cases l r s with | ok ts s => (match ts with | [] => rfl | [t] => (simp only; cases lstI t s with | none => rfl | some w => (obtain ⟨a, b⟩ := w; rfl)) | _ :: _ :: _ => rfl) | exc => rfl | bad => rfl
theorem ev_en1  : iEn1 (.ok [x] s) = iEn2 s (lstI x s) := rfl
theorem ev_en2  : iEn2 s (some (us, chk)) = .ok ((enumP us).map fun p => T.tup [p.1, p.2]) chk s := rfl
theorem ev_outr  : Fl.out (.rt x s) = .ok x s := rfl
theorem ev_outn  : Fl.out (.nx r s) = .ok .non s := rfl
theorem ev_outx  : Fl.out (.ex ex r s) = .exc ex s := rfl
theorem ev_ixi  : keyT (.str z) = some (.inr z) := rfl
theorem ev_ixk {i : Int} : keyT (.int i) = some (.inl i) := rfl
def oIx1 (s : Sto) : Option T → OV
  | some t => some (t, s)
  | none => none
def oIxK (kvs : List (Key × T)) (s : Sto) : Option Key → OV
  | some k => oIx1 s (dGet kvs k)
  | none => none
def oIxL (y : T) (s : Sto) : Option O → OV
  | some (.lst ts) => (match y with | .int i => oIx1 s (atT ts i) | _ => none)
  | some (.dct kvs) => oIxK kvs s (keyT y)
  | _ => none
theorem ev_ixl  : oIx (.loc n) y s = oIxL y s (s.get n) := by
  unfold oIx
  simp only
  generalize s.get n = og
  match og with
  | none => rfl
  | some (.lst ts) =>
    cases y with
    | int i => (show (atT ts i).map _ = oIx1 s (atT ts i); cases atT ts i <;> rfl)
    | _ => rfl
  | some (.dct kvs) =>
    show _ = oIxK kvs s (keyT y)
    simp only
    generalize keyT y = ky
    cases ky with
    | none => rfl
    | some k => (show (dGet kvs k).map _ = oIx1 s (dGet kvs k); cases dGet kvs k <;> rfl)
  | some (.ins _ _) => rfl
theorem ev_ixll {i : Int} : oIxL (.int i) s (some (.lst ts)) = oIx1 s (atT ts i) := rfl
theorem ev_ixld {kvs : List (Key × T)} : oIxL y s (some (.dct kvs)) = oIxK kvs s (keyT y) := rfl
theorem ev_ixkk {kvs : List (Key × T)} {k : Key} : oIxK kvs s (some k) = oIx1 s (dGet kvs k) := rfl
theorem ev_ix1  : oIx1 s (some x) = some (x, s) := rfl
theorem ev_ixt {i : Int} : oIx (.tup ts) (.int i) s = oIx1 s (atT ts i) := by unfold oIx; simp only; cases atT ts i <;> rfl
theorem ev_ixf {i : Int} : oIx (.frz ts) (.int i) s = oIx1 s (atT ts i) := by unfold oIx; simp only; cases atT ts i <;> rfl
end
end Fx

set_option maxRecDepth 100000
set_option maxHeartbeats 2000000
/-! Fx: values, the store's plain laws (printed by mkval.py). -/
namespace Fx
open PySem L2 PyProof.Rows
variable {s : Sto} {i j k v : Int} {x y t u : T} {ts us : List T} {z w : Str} {b c : Bool} {n m : Nat}

theorem vv_oAdd  : oAdd (.int i) (.int j) s = some (.int (i + j), s) := rfl
theorem vv_oAddI  : oAddI (.int i) (.int j) s = some (.int (i + j), s) := rfl
theorem vv_oSub  : oSub (.int i) (.int j) s = some (.int (i - j), s) := rfl
theorem vv_oLt  : oLt (.int i) (.int j) s = some (.bl (decide (i < j)), s) := rfl
theorem vv_oLe  : oLe (.int i) (.int j) s = some (.bl (decide (i ≤ j)), s) := rfl
theorem vv_oGt  : oGt (.int i) (.int j) s = some (.bl (decide (j < i)), s) := rfl
theorem vv_oGe  : oGe (.int i) (.int j) s = some (.bl (decide (j ≤ i)), s) := rfl
theorem vv_oEq  : oEq (.int i) (.int j) s = some (.bl (decide (i = j)), s) := rfl
theorem vv_oNe  : oNe (.int i) (.int j) s = some (.bl (!decide (i = j)), s) := rfl
theorem vv_eqs  : oEq (.str z) (.str w) s = some (.bl (decide (z = w)), s) := rfl
theorem vv_nes  : oNe (.str z) (.str w) s = some (.bl (!decide (z = w)), s) := rfl
theorem vv_eqns  : oEq .non (.str w) s = some (.bl false, s) := rfl
theorem vv_isn  : oIsN x .non s = some (.bl (isNon x), s) := rfl
theorem vv_notn  : oNotN x .non s = some (.bl (!isNon x), s) := rfl
theorem vv_in_non  : isNon .non = true := rfl
theorem vv_in_bl  : isNon (.bl b) = false := rfl
theorem vv_in_int  : isNon (.int i) = false := rfl
theorem vv_in_str  : isNon (.str z) = false := rfl
theorem vv_in_tup  : isNon (.tup ts) = false := rfl
theorem vv_in_frz  : isNon (.frz ts) = false := rfl
theorem vv_in_loc  : isNon (.loc n) = false := rfl
theorem vv_neg  : uNeg (.int i) s = some (.int (-i), s) := rfl
theorem vv_tb  : tru (.bl b) s = some b := rfl
theorem vv_ti  : tru (.int i) s = some (decide (i ≠ 0)) := rfl
theorem vv_tn  : tru .non s = some false := rfl
theorem vv_tt  : tru (.tup ts) s = some (!ts.isEmpty) := rfl
theorem vv_tf  : tru (.frz ts) s = some (!ts.isEmpty) := rfl
theorem vv_mul (h : okN i = true) (h2 : okN j = true) : oMul (.int i) (.int j) s = some (.int (i * j), s) := by simp [oMul, h, h2]
theorem vv_div (h : 0 < j) (h2 : okN j = true) : oDiv (.int i) (.int j) s = some (.int (i / j), s) := by simp [oDiv, h, h2]
theorem vv_mod (h : 0 < j) : oMod (.int i) (.int j) s = some (.int (i % j), s) := by simp [oMod, h]
theorem vv_pow7  : oPow (.int 10) (.int 7) s = some (.int 10000000, s) := by simp [oPow]
theorem vv_pow8  : oPow (.int 10) (.int 8) s = some (.int 100000000, s) := by simp [oPow]
theorem vv_pow9  : oPow (.int 10) (.int 9) s = some (.int 1000000000, s) := by simp [oPow]
theorem vv_pow18  : oPow (.int 10) (.int 18) s = some (.int 1000000000000000000, s) := by simp [oPow]
theorem vv_pow12  : oPow (.int 10) (.int 12) s = some (.int 1000000000000, s) := by simp [oPow]
theorem vv_pow6  : oPow (.int 10) (.int 6) s = some (.int 1000000, s) := by simp [oPow]
theorem vv_pow5  : oPow (.int 10) (.int 5) s = some (.int 100000, s) := by simp [oPow]
theorem vv_pow4  : oPow (.int 10) (.int 4) s = some (.int 10000, s) := by simp [oPow]
theorem vv_pow10  : oPow (.int 10) (.int 10) s = some (.int 10000000000, s) := by simp [oPow]
theorem vv_pow16  : oPow (.int 10) (.int 16) s = some (.int 10000000000000000, s) := by simp [oPow]
theorem vv_abs  : fAbs [.int i] s = some (.int (if i < 0 then -i else i), s) := rfl
theorem vv_min  : fMin2 [.int i, .int j] s = some (.int (if j < i then j else i), s) := rfl
theorem vv_max  : fMax2 [.int i, .int j] s = some (.int (if j > i then j else i), s) := rfl
theorem vv_inti  : fInt [.int i] s = some (.int i, s) := rfl
theorem vv_intb  : fInt [.bl b] s = some (.int (if b then 1 else 0), s) := rfl
theorem vv_stri (h : okN i = true) : fStr [.int i] s = some (.str (toString i), s) := if_pos h
theorem vv_strs  : fStr [.str z] s = some (.str z, s) := rfl
theorem vv_lent  : fLen [.tup ts] s = some (.int ts.length, s) := rfl
theorem vv_lenf  : fLen [.frz ts] s = some (.int ts.length, s) := rfl
theorem vv_lens (h : z.length ≤ sizeLine) : fLen [.str z] s = some (.int z.length, s) := by show (if z.length ≤ sizeLine then some ((z.length : Nat) : Int) else none).map _ = _; rw [if_pos h]; rfl
theorem vv_htup  : hTup ts s = some (.tup ts, s) := rfl
theorem vv_hlen  : hLen ts s = some (.int ts.length, s) := rfl
theorem vv_is_non_bool  : fIsI [.non, .ty "bool"] s = some (.bl false, s) := rfl
theorem vv_is_non_int  : fIsI [.non, .ty "int"] s = some (.bl false, s) := rfl
theorem vv_is_non_str  : fIsI [.non, .ty "str"] s = some (.bl false, s) := rfl
theorem vv_is_non_tuple  : fIsI [.non, .ty "tuple"] s = some (.bl false, s) := rfl
theorem vv_is_bl_bool  : fIsI [(.bl b), .ty "bool"] s = some (.bl true, s) := rfl
theorem vv_is_bl_int  : fIsI [(.bl b), .ty "int"] s = some (.bl true, s) := rfl
theorem vv_is_bl_str  : fIsI [(.bl b), .ty "str"] s = some (.bl false, s) := rfl
theorem vv_is_bl_tuple  : fIsI [(.bl b), .ty "tuple"] s = some (.bl false, s) := rfl
theorem vv_is_int_bool  : fIsI [(.int i), .ty "bool"] s = some (.bl false, s) := rfl
theorem vv_is_int_int  : fIsI [(.int i), .ty "int"] s = some (.bl true, s) := rfl
theorem vv_is_int_str  : fIsI [(.int i), .ty "str"] s = some (.bl false, s) := rfl
theorem vv_is_int_tuple  : fIsI [(.int i), .ty "tuple"] s = some (.bl false, s) := rfl
theorem vv_is_str_bool  : fIsI [(.str z), .ty "bool"] s = some (.bl false, s) := rfl
theorem vv_is_str_int  : fIsI [(.str z), .ty "int"] s = some (.bl false, s) := rfl
theorem vv_is_str_str  : fIsI [(.str z), .ty "str"] s = some (.bl true, s) := rfl
theorem vv_is_str_tuple  : fIsI [(.str z), .ty "tuple"] s = some (.bl false, s) := rfl
theorem vv_is_tup_bool  : fIsI [(.tup ts), .ty "bool"] s = some (.bl false, s) := rfl
theorem vv_is_tup_int  : fIsI [(.tup ts), .ty "int"] s = some (.bl false, s) := rfl
theorem vv_is_tup_str  : fIsI [(.tup ts), .ty "str"] s = some (.bl false, s) := rfl
theorem vv_is_tup_tuple  : fIsI [(.tup ts), .ty "tuple"] s = some (.bl true, s) := rfl
theorem vv_is_frz_bool  : fIsI [(.frz ts), .ty "bool"] s = some (.bl false, s) := rfl
theorem vv_is_frz_int  : fIsI [(.frz ts), .ty "int"] s = some (.bl false, s) := rfl
theorem vv_is_frz_str  : fIsI [(.frz ts), .ty "str"] s = some (.bl false, s) := rfl
theorem vv_is_frz_tuple  : fIsI [(.frz ts), .ty "tuple"] s = some (.bl false, s) := rfl
theorem vv_iss  : isTy "str" (.str z) s = true := rfl
theorem vv_items_t  : itemsT s (.tup ts) = some ts := rfl
theorem vv_items_f  : itemsT s (.frz ts) = some ts := rfl
theorem vv_spl (h : (w.length == 0) = false ∧ z.length + 2 ≤ sizeLine) : mSplit (.str z) [.str w] s = some (.loc s.len, s.add (.lst (strTs (Txt.split z w)))) := if_pos h
theorem vv_fmts (h : z.length ≤ sizeLine) : fmtT (.str z) s = some (.str z, s) := if_pos h
theorem vv_fmti (h : okN i = true) : fmtT (.int i) s = some (.str (toString i), s) := if_pos h
theorem vv_cats (h : z.length + w.length ≤ sizeLine) : oAdd (.str z) (.str w) s = some (.str (z ++ w), s) := if_pos h
theorem vv_cast0  : ((0 : Nat) : Int) = (0 : Int) := rfl
theorem vv_cast1  : ((1 : Nat) : Int) = (1 : Int) := rfl
theorem vv_cast2  : ((2 : Nat) : Int) = (2 : Int) := rfl
theorem vv_cast3  : ((3 : Nat) : Int) = (3 : Int) := rfl
theorem vv_cast4  : ((4 : Nat) : Int) = (4 : Int) := rfl
theorem vv_cast5  : ((5 : Nat) : Int) = (5 : Int) := rfl
theorem vv_cast6  : ((6 : Nat) : Int) = (6 : Int) := rfl
theorem vv_cast7  : ((7 : Nat) : Int) = (7 : Int) := rfl
theorem vv_cast8  : ((8 : Nat) : Int) = (8 : Int) := rfl
theorem vv_cast9  : ((9 : Nat) : Int) = (9 : Int) := rfl
theorem vv_cast10  : ((10 : Nat) : Int) = (10 : Int) := rfl
theorem vv_cast11  : ((11 : Nat) : Int) = (11 : Int) := rfl
theorem vv_line0  : (0 ≤ sizeLine) = True := eq_true (by decide)
theorem vv_line1  : (1 ≤ sizeLine) = True := eq_true (by decide)
theorem vv_line2  : (2 ≤ sizeLine) = True := eq_true (by decide)
theorem vv_line3  : (3 ≤ sizeLine) = True := eq_true (by decide)
theorem vv_line4  : (4 ≤ sizeLine) = True := eq_true (by decide)
theorem vv_line5  : (5 ≤ sizeLine) = True := eq_true (by decide)
theorem vv_line6  : (6 ≤ sizeLine) = True := eq_true (by decide)
theorem vv_line7  : (7 ≤ sizeLine) = True := eq_true (by decide)
theorem vv_line8  : (8 ≤ sizeLine) = True := eq_true (by decide)

def isL : Option O → Bool
  | some (.lst _) => true
  | _ => false
def lenL (s : Sto) : Option O → OV
  | some (.lst ts) => some (.int ts.length, s)
  | _ => none
def tupL (s : Sto) : Option O → OV
  | some (.lst ts) => some (.tup ts, s)
  | _ => none
def itmL : Option O → Option (List T)
  | some (.lst ts) => some ts
  | _ => none
noncomputable def lstIL (n : Nat) : Option O → Option (List T × (Sto → Bool))
  | some (.lst ts) => some (ts, chkL n ts)
  | _ => none
def appL (n : Nat) (x : T) (s : Sto) : Option O → OV
  | some (.lst a) => if a.length < sizeLine then some (.non, s.put n (.lst (a ++ [x]))) else none
  | _ => none
def popL (n : Nat) (s : Sto) : Option O → OV
  | some (.lst (t :: ts)) => some (t, s.put n (.lst ts))
  | _ => none
def insL (n : Nat) (x : T) (s : Sto) : Option O → OV
  | some (.lst a) => if a.length < sizeLine then some (.non, s.put n (.lst (x :: a))) else none
  | _ => none

theorem vv_isl  : isTy "list" (.loc n) s = isL (s.get n) := by unfold isTy; simp only <;> cases s.get n with | none => rfl | some o => cases o <;> first | rfl | simp [isL]
theorem vv_isl1  : isL (some (.lst ts)) = true := rfl
theorem vv_lenl  : fLen [.loc n] s = lenL s (s.get n) := by unfold fLen lenT itemsT lenL; simp only <;> cases s.get n with | none => rfl | some o => cases o <;> rfl
theorem vv_lenl1  : lenL s (some (.lst ts)) = some (.int ts.length, s) := rfl
theorem vv_tupl  : fTup [.loc n] s = tupL s (s.get n) := by unfold fTup itemsT tupL; simp only <;> cases s.get n with | none => rfl | some o => cases o <;> rfl
theorem vv_tupl1  : tupL s (some (.lst ts)) = some (.tup ts, s) := rfl
theorem vv_items_l  : itemsT s (.loc n) = itmL (s.get n) := by unfold itemsT itmL; simp only <;> cases s.get n with | none => rfl | some o => cases o <;> rfl
theorem vv_items_l1  : itmL (some (.lst ts)) = some ts := rfl
theorem vv_lst_f  : lstI (.frz ts) s = some (ts, chkT) := rfl
theorem vv_lst_l  : lstI (.loc n) s = lstIL n (s.get n) := by unfold lstI lstIL; simp only <;> cases s.get n with | none => rfl | some o => cases o <;> rfl
theorem vv_lst_l1  : lstIL n (some (.lst ts)) = some (ts, chkL n ts) := rfl
theorem vv_app  : mAppend (.loc n) [x] s = appL n x s (s.get n) := by unfold mAppend appL; simp only <;> cases s.get n with | none => rfl | some o => cases o <;> rfl
theorem vv_app1 (hz : ts.length < sizeLine) : appL n x s (some (.lst ts)) = some (.non, s.put n (.lst (ts ++ [x]))) := if_pos hz
theorem vv_pop0  : mPop (.loc n) [.int 0] s = popL n s (s.get n) := by unfold mPop popL; simp only <;> cases s.get n with | none => rfl | some o => cases o with | lst ts => (cases ts <;> simp) | _ => rfl
theorem vv_pop01  : popL n s (some (.lst (t :: ts))) = some (t, s.put n (.lst ts)) := rfl
theorem vv_ins0  : mInsert (.loc n) [.int 0, x] s = insL n x s (s.get n) := by unfold mInsert insL; simp only <;> cases s.get n with | none => rfl | some o => cases o with | lst ts => simp | _ => rfl
theorem vv_ins01 (hz : ts.length < sizeLine) : insL n x s (some (.lst ts)) = some (.non, s.put n (.lst (x :: ts))) := if_pos hz

def mulL (k : Int) (s : Sto) : Option O → OV
  | some (.lst a) => if a.length * k.toNat ≤ sizeLine && okN k && decide (-(2 ^ 63) ≤ k ∧ k < 2 ^ 63) then some (.loc s.len, s.add (.lst (List.replicate k.toNat a).flatten)) else none
  | _ => none
def addL (s : Sto) : Option O → Option O → OV
  | some (.lst a), some (.lst b) => if a.length + b.length ≤ sizeLine then some (.loc s.len, s.add (.lst (a ++ b))) else none
  | _, _ => none

theorem vv_mull  : oMul (.loc n) (.int k) s = mulL k s (s.get n) := by unfold oMul mulL; simp only <;> cases s.get n with | none => rfl | some o => cases o <;> rfl
theorem vv_mull0  : mulL 0 s (some (.lst [x])) = some (.loc s.len, s.add (.lst [])) := rfl
theorem vv_mull1  : mulL 1 s (some (.lst [x])) = some (.loc s.len, s.add (.lst [x])) := rfl
theorem vv_addl  : oAdd (.loc n) (.loc m) s = addL s (s.get n) (s.get m) := by unfold oAdd addL; simp only <;> cases s.get n with | none => rfl | some o => (cases o with | lst a => (cases s.get m with | none => rfl | some o2 => cases o2 <;> rfl) | _ => rfl)
theorem vv_addl1 (hz : ts.length + us.length ≤ sizeLine) : addL s (some (.lst ts)) (some (.lst us)) = some (.loc s.len, s.add (.lst (ts ++ us))) := if_pos hz
theorem vv_slf {lo hi : Option Int} : slT (.frz ts) lo hi s = some (.loc s.len, s.add (.lst (cutT ts lo hi))) := rfl
theorem vv_slt {lo hi : Option Int} : slT (.tup ts) lo hi s = some (.tup (cutT ts lo hi), s) := rfl

/-! ### the store -/
theorem cut_self {s : Sto} {m : Nat} (h : s.len ≤ m) : s.cut m = s := by
  obtain ⟨os, kp⟩ := s
  simp only [Sto.cut, Sto.len] at *
  rw [List.take_of_length_le h]
theorem gc_same {s : Sto} {t : T} : gcR s.len s.kp (.ok t s) = .ok t s := by
  simp only [gcR, if_true]
  rw [cut_self (Nat.le_max_left _ _)]
theorem runD_eq {d : FnD} {C : CallT} {ts : List T} {s : Sto} (h : ts.length = d.np) : runD d C ts s = gcR s.len s.kp (d.body C (ts.map some ++ List.replicate (d.nl - d.np) none) s).out := if_pos h
theorem run_eq {p : String → Option FnD} {k : Nat} {f : String} {d : FnD} {ts : List T} {s : Sto} (hp : p f = some d) (h : ts.length = d.np) : run p (k + 1) f ts s = gcR s.len s.kp (d.body (run p k) (ts.map some ++ List.replicate (d.nl - d.np) none) s).out := by
  show (match p f with | some d => runD d (run p k) ts s | none => .bad) = _
  rw [hp]
  exact runD_eq h
/-- a def that leaves the store as it is -/
theorem run_pure {p : String → Option FnD} {k : Nat} {f : String} {d : FnD} {ts : List T} {s : Sto} {t : T} (hp : p f = some d) (h : ts.length = d.np) (e : (d.body (run p k) (ts.map some ++ List.replicate (d.nl - d.np) none) s).out = .ok t s) : run p (k + 1) f ts s = .ok t s :=
  (run_eq hp h).trans ((congrArg _ e).trans gc_same)
/-- more objects behind, nothing else -/
def Gro (s s' : Sto) : Prop := ∃ ex, s' = ⟨s.os ++ ex, s.kp⟩
theorem Gro.refl : Gro s s := ⟨[], by simp⟩
theorem Gro.trans {s1 s2 s3 : Sto} (a : Gro s1 s2) (b : Gro s2 s3) : Gro s1 s3 := by
  obtain ⟨e1, rfl⟩ := a
  obtain ⟨e2, rfl⟩ := b
  exact ⟨e1 ++ e2, by simp⟩
theorem Gro.add {o : O} : Gro s (s.add o) := ⟨[o], rfl⟩
theorem Gro.get {s' : Sto} (a : Gro s s') {o : O} (h : s.get n = some o) : s'.get n = some o := by
  obtain ⟨ex, rfl⟩ := a
  have hl : n < s.os.length := (List.getElem?_eq_some_iff.mp h).1
  show (s.os ++ ex)[n]? = _
  rw [List.getElem?_append_left hl]; exact h
theorem Gro.len {s' : Sto} (a : Gro s s') : s.len ≤ s'.len := by
  obtain ⟨ex, rfl⟩ := a
  simp [Sto.len]
theorem gc_gro {s' : Sto} {t : T} (a : Gro s s') (h : t.hi ≤ s.len) : gcR s.len s.kp (.ok t s') = .ok t s := by
  obtain ⟨ex, rfl⟩ := a
  simp only [gcR, if_true]
  rw [Nat.max_eq_left h]
  obtain ⟨os, kp⟩ := s
  simp [Sto.cut, Sto.len]
theorem run_gro {p : String → Option FnD} {k : Nat} {f : String} {d : FnD} {ts : List T} {s : Sto} {t : T} (hp : p f = some d) (h : ts.length = d.np) (e : ∃ s', (d.body (run p k) (ts.map some ++ List.replicate (d.nl - d.np) none) s).out = .ok t s' ∧ Gro s s') (hh : t.hi ≤ s.len) : run p (k + 1) f ts s = .ok t s := by
  obtain ⟨s', e1, e2⟩ := e
  exact (run_eq hp h).trans ((congrArg _ e1).trans (gc_gro e2 hh))
theorem get_add {o : O} : (s.add o).get s.len = some o := by simp [Sto.get, Sto.add, Sto.len]
theorem get_add_old {o q : O} (h : s.get n = some q) : (s.add o).get n = some q := Gro.add.get h
theorem len_add {o : O} : (s.add o).len = s.len + 1 := by simp [Sto.len, Sto.add]
theorem lt_of_get {o : O} (h : s.get n = some o) : n < s.len := (List.getElem?_eq_some_iff.mp h).1
theorem get_put {o : O} (h : n < s.len) : (s.put n o).get n = some o := by
  simp only [Sto.put, Sto.get, Sto.len] at *
  rw [List.getElem?_set_self h]
theorem get_put_ne {o : O} (h : n ≠ m) : (s.put n o).get m = s.get m := by
  simp only [Sto.put, Sto.get]
  rw [List.getElem?_set_ne h]
theorem len_put {o : O} : (s.put n o).len = s.len := by simp [Sto.put, Sto.len]
theorem kp_put {o : O} (h : o.hi ≤ n) : (s.put n o).kp = s.kp := by simp [Sto.put, h]
/-- a list behind s changed -/
theorem Gro.put {s' : Sto} {o : O} (a : Gro s s') (h : s.len ≤ n) (hh : o.hi ≤ n) : Gro s (s'.put n o) := by
  obtain ⟨ex, rfl⟩ := a
  refine ⟨ex.set (n - s.os.length) o, ?_⟩
  simp only [Sto.put, hh, if_true]
  rw [List.set_append_right _ _ h]
/-! ### tests by if -/
theorem bool_if {P : Prop} [Decidable P] {α : Type} {a b : α} : (if decide P = true then a else b) = if P then a else b := by simp only [decide_eq_true_eq]
theorem int_hi : T.hi (.int i) = 0 := rfl

end Fx

set_option maxRecDepth 100000
set_option maxHeartbeats 2000000
/-! Fx: loops. -/
namespace Fx
open PySem L2 PyProof.Rows
section
variable {chk : Sto → Bool} {g : Gv} {c : Bv} {e : Ev} {b : Sv} {r0 r : Env} {s : Sto} {α : Type}
/-- a comprehension that changes nothing -/
theorem compL_map {enc f : α → T} (hc : chk s = true) : ∀ (xs : List α) (acc : List T), (∀ x ∈ xs, ∃ r', g (enc x) r0 s = .nx r' s ∧ e r' s = .ok (f x) s) → acc.length + xs.length ≤ sizeLine → compL chk g bYes e r0 (xs.map enc) acc s = .ok (acc ++ xs.map f) s
  | [], acc, _, _ => by simp [compL, hc]
  | x :: xs, acc, h, hz => by
    obtain ⟨r', h1, h2⟩ := h x List.mem_cons_self
    simp only [List.length_cons] at hz
    have hl : acc.length < sizeLine := by omega
    simp only [List.map_cons, compL, hc, if_true, h1, bYes, h2, hl]
    rw [compL_map hc xs (acc ++ [f x]) (fun y hy => h y (List.mem_cons_of_mem _ hy)) (by simp; omega)]
    simp
/-- .. with a test -/
theorem compL_filter {enc f : α → T} {q : α → Bool} (hc : chk s = true) : ∀ (xs : List α) (acc : List T), (∀ x ∈ xs, ∃ r', g (enc x) r0 s = .nx r' s ∧ c r' s = .ok (q x) s ∧ (q x = true → e r' s = .ok (f x) s)) → acc.length + xs.length ≤ sizeLine →
    compL chk g c e r0 (xs.map enc) acc s = .ok (acc ++ (xs.filter q).map f) s
  | [], acc, _, _ => by simp [compL, hc]
  | x :: xs, acc, h, hz => by
    obtain ⟨r', h1, h2, h3⟩ := h x List.mem_cons_self
    simp only [List.length_cons] at hz
    have hl : acc.length < sizeLine := by omega
    have ih := fun a ha => compL_filter hc xs a (fun y hy => h y (List.mem_cons_of_mem _ hy)) ha
    cases hq : q x with
    | true =>
      simp only [List.map_cons, compL, hc, if_true, h1, h2, hq, h3 hq, hl, List.filter_cons_of_pos hq]
      rw [ih (acc ++ [f x]) (by simp; omega)]
      simp
    | false =>
      have hq' : ¬ q x = true := by simp [hq]
      simp only [List.map_cons, compL, hc, if_true, h1, h2, hq, Bool.false_eq_true, if_false, List.filter_cons_of_neg hq']
      exact ih acc (by omega)
/-- a comprehension whose items are made by calls -/
theorem compL_inv {I : Nat → Sto → Prop} {P : T → Prop} (hc : ∀ i s, I i s → chk s = true) : ∀ (ts : List T) (acc : List T) (i : Nat) (s : Sto), (∀ t ∈ ts, ∀ i s, I i s → ∃ r' y s', g t r0 s = .nx r' s ∧ e r' s = .ok y s' ∧ I (i + 1) s' ∧ P y) → I i s → acc.length + ts.length ≤ sizeLine →
    ∃ ys s', compL chk g bYes e r0 ts acc s = .ok (acc ++ ys) s' ∧ I (i + ts.length) s' ∧ (∀ y ∈ ys, P y) ∧ ys.length = ts.length
  | [], acc, i, s, _, hI, _ => ⟨[], s, by simp [compL, hc i s hI], hI, by simp, rfl⟩
  | t :: ts, acc, i, s, h, hI, hz => by
    obtain ⟨r', y, s', h1, h2, h3, h4⟩ := h t List.mem_cons_self i s hI
    simp only [List.length_cons] at hz
    have hl : acc.length < sizeLine := by omega
    obtain ⟨ys, s2, e1, e2, e3, e4⟩ := compL_inv hc ts (acc ++ [y]) (i + 1) s' (fun u hu => h u (List.mem_cons_of_mem _ hu)) h3 (by simp; omega)
    refine ⟨y :: ys, s2, ?_, by rw [List.length_cons]; rw [show i + (ts.length + 1) = i + 1 + ts.length by omega]; exact e2, fun z hz => ?_, by simp [e4]⟩
    · simp only [compL, hc i s hI, if_true, h1, bYes, h2, hl, e1]
      simp
    · rcases List.mem_cons.mp hz with rfl | hz
      · exact h4
      · exact e3 z hz
/-- .. by the turn -/
theorem compL_at {I : Nat → Sto → Prop} {P : T → Prop} {ts : List T} (hc : ∀ i s, I i s → chk s = true) (h : ∀ i t s, ts[i]? = some t → I i s → ∃ r' y s', g t r0 s = .nx r' s ∧ e r' s = .ok y s' ∧ I (i + 1) s' ∧ P y) : ∀ (us acc : List T) (i : Nat) (s : Sto), ts.drop i = us → i ≤ ts.length → I i s → acc.length + us.length ≤ sizeLine →
    ∃ ys s', compL chk g bYes e r0 us acc s = .ok (acc ++ ys) s' ∧ I ts.length s' ∧ (∀ y ∈ ys, P y) ∧ ys.length = us.length
  | [], acc, i, s, hd, hi, hI, _ => by
    have : i = ts.length := by
      have := congrArg List.length hd
      simp at this; omega
    subst this
    exact ⟨[], s, by simp [compL, hc _ s hI], hI, by simp, rfl⟩
  | t :: us, acc, i, s, hd, hi, hI, hz => by
    have hlt : i < ts.length := by
      have := congrArg List.length hd
      simp at this; omega
    have e0 := List.drop_eq_getElem_cons hlt
    rw [hd] at e0
    obtain ⟨rfl, e1⟩ := List.cons.inj e0
    obtain ⟨r', y, s', h1, h2, h3, h4⟩ := h i ts[i] s (by simp [hlt]) hI
    simp only [List.length_cons] at hz
    have hl : acc.length < sizeLine := by omega
    obtain ⟨ys, s2, q1, q2, q3, q4⟩ := compL_at hc h us (acc ++ [y]) (i + 1) s' e1.symm hlt h3 (by simp; omega)
    refine ⟨y :: ys, s2, ?_, q2, fun z hz => ?_, by simp [q4]⟩
    · simp only [compL, hc i s hI, if_true, h1, bYes, h2, hl, q1]
      simp
    · rcases List.mem_cons.mp hz with rfl | hz
      · exact h4
      · exact q3 z hz
theorem list_dec {P : α → Prop} {f : α → T} : ∀ {ys : List T}, (∀ y ∈ ys, ∃ a, y = f a ∧ P a) → ∃ as : List α, ys = as.map f ∧ (∀ a ∈ as, P a)
  | [], _ => ⟨[], rfl, by simp⟩
  | y :: ys, h => by
    obtain ⟨a, rfl, pa⟩ := h y List.mem_cons_self
    obtain ⟨as, rfl, pas⟩ := list_dec fun z hz => h z (List.mem_cons_of_mem _ hz)
    exact ⟨a :: as, rfl, by simpa using ⟨pa, pas⟩⟩
/-- what a turn may do -/
def Turn (I : Env → Sto → Prop) (B : Env → Sto → Prop) (R : T → Sto → Prop) : Fl → Prop
  | .nx r s => I r s
  | .ct r s => I r s
  | .bk r s => B r s
  | .rt t s => R t s
  | _ => False
def TurnE (I : Env → Sto → Prop) (R : T → Sto → Prop) : Fl → Prop
  | .nx r s => I r s
  | .rt t s => R t s
  | _ => False
theorem forL_gen {I : Nat → Env → Sto → Prop} {B : Env → Sto → Prop} {R : T → Sto → Prop} {ts : List T} (hc : ∀ i r s, I i r s → chk s = true)
    (h : ∀ i t r s, ts[i]? = some t → I i r s → ∃ r1 s1, g t r s = .nx r1 s1 ∧ Turn (I (i + 1)) B R (b r1 s1)) : ∀ (us : List T) (i : Nat) (r : Env) (s : Sto), ts.drop i = us → i ≤ ts.length → I i r s → TurnE (fun r s => I ts.length r s ∨ B r s) R (forL chk g b us r s)
  | [], i, r, s, hd, hi, hI => by
    have : i = ts.length := by
      have := congrArg List.length hd
      simp at this; omega
    subst this
    simp only [forL, hc _ r s hI, if_true]
    exact .inl hI
  | t :: us, i, r, s, hd, hi, hI => by
    have hlt : i < ts.length := by
      have := congrArg List.length hd
      simp at this; omega
    have e0 := List.drop_eq_getElem_cons hlt
    rw [hd] at e0
    obtain ⟨rfl, e1⟩ := List.cons.inj e0
    obtain ⟨r1, s1, h1, h2⟩ := h i ts[i] r s (by simp [hlt]) hI
    simp only [forL, hc _ r s hI, if_true, h1]
    revert h2
    cases b r1 s1 with
    | nx r2 s2 => exact fun h2 => forL_gen hc h us (i + 1) r2 s2 e1.symm hlt h2
    | ct r2 s2 => exact fun h2 => forL_gen hc h us (i + 1) r2 s2 e1.symm hlt h2
    | bk r2 s2 => exact fun h2 => .inr h2
    | rt t s2 => exact fun h2 => h2
    | ex x r2 s2 => exact fun h2 => h2
    | bad => exact fun h2 => h2
/-- a for that neither breaks nor returns -/
theorem forL_inv {I : Nat → Env → Sto → Prop} {ts : List T} (hc : ∀ i r s, I i r s → chk s = true) (h : ∀ i t r s, ts[i]? = some t → I i r s → ∃ r1 s1 r2 s2, g t r s = .nx r1 s1 ∧ b r1 s1 = .nx r2 s2 ∧ I (i + 1) r2 s2) {r : Env} {s : Sto} (h0 : I 0 r s) :
    ∃ r' s', forL chk g b ts r s = .nx r' s' ∧ I ts.length r' s' := by
  have z := forL_gen (b := b) (B := fun _ _ => False) (R := fun _ _ => False) hc (fun i t r s e hI => by
    obtain ⟨r1, s1, r2, s2, e1, e2, e3⟩ := h i t r s e hI
    exact ⟨r1, s1, e1, by rw [e2]; exact e3⟩) ts 0 r s rfl (Nat.zero_le _) h0
  revert z
  cases forL chk g b ts r s with
  | nx r' s' => exact fun z => ⟨r', s', rfl, z.elim id False.elim⟩
  | rt t s' => exact fun z => z.elim
  | bk r' s' => exact fun z => z.elim
  | ct r' s' => exact fun z => z.elim
  | ex x r' s' => exact fun z => z.elim
  | bad => exact fun z => z.elim
end

/-! ### numbers -/
theorem okN_small {i : Int} (h1 : -1000000000000000000000000000000000000000000000 ≤ i) (h2 : i ≤ 1000000000000000000000000000000000000000000000) : okN i = true := decide_eq_true (by unfold BIG; omega)
theorem okR_small {i : Int} (h1 : -1000000000000000000 ≤ i) (h2 : i ≤ 1000000000000000000) : okR i = true := decide_eq_true (by omega)
theorem atT_of {ts : List T} {i : Int} (h1 : 0 ≤ i) (h2 : i < ts.length) : ∃ t, atT ts i = some t ∧ ts[i.toNat]? = some t := by
  have hlt : i.toNat < ts.length := by omega
  refine ⟨ts[i.toNat], ?_, by simp [hlt]⟩
  unfold atT ixN
  rw [if_pos h1, if_pos h2]
  simp [hlt]
end Fx

set_option maxRecDepth 100000
set_option maxHeartbeats 4000000
/-! Fx: the laws' draws out of a dict of cells. -/
namespace Fx
open PySem L2 PyProof.Rows

/-! ### lists of ints compared with [] -/
theorem mapO_ints {s : Sto} {n : Nat} : ∀ l : List Int, mapO (toD (n + 1) s) (l.map T.int) = some (l.map PyData.int)
  | [] => rfl
  | a :: r => by
    have e : toD (n + 1) s (.int a) = some (.int a) := rfl
    rw [List.map_cons, mapO, e, mapO_ints r]
    rfl
theorem toD_intsN {s : Sto} {a n : Nat} {l : List Int} (h : s.get a = some (.lst (l.map .int))) : toD (n + 2) s (.loc a) = some (.list (l.map PyData.int)) := by
  rw [toD]
  simp only [h]
  rw [mapO_ints]
  rfl
theorem toD_ints {s : Sto} {a : Nat} {l : List Int} (h : s.get a = some (.lst (l.map .int))) : toD DEEP s (.loc a) = some (.list (l.map PyData.int)) := toD_intsN (n := 28) h
theorem eqv_nil : ∀ l : List PyData, PyData.eqv (.list l) (.list []) = l.isEmpty
  | [] => by simp [PyData.eqv, PyData.eqvAll]
  | _ :: _ => by simp [PyData.eqv, PyData.eqvAll]
theorem ne_nil {s : Sto} {a m : Nat} {l : List Int} (h : s.get a = some (.lst (l.map .int))) (h2 : s.get m = some (.lst [])) : oNe (.loc a) (.loc m) s = some (.bl (!l.isEmpty), s) := by
  have e : eqT s (.loc a) (.loc m) = some l.isEmpty := by
    unfold eqT
    have e2 := toD_ints (s := s) (a := m) (l := []) (by simpa using h2)
    simp only [eqS, toD_ints h, e2, List.map_nil, eqv_nil]
    cases l <;> rfl
  show (eqT s (.loc a) (.loc m)).map _ = _
  rw [e]; rfl
theorem eq_nil {s : Sto} {a m : Nat} {l : List Int} (h : s.get a = some (.lst (l.map .int))) (h2 : s.get m = some (.lst [])) : oEq (.loc a) (.loc m) s = some (.bl l.isEmpty, s) := by
  have e : eqT s (.loc a) (.loc m) = some l.isEmpty := by
    unfold eqT
    have e2 := toD_ints (s := s) (a := m) (l := []) (by simpa using h2)
    simp only [eqS, toD_ints h, e2, List.map_nil, eqv_nil]
    cases l <;> rfl
  show (eqT s (.loc a) (.loc m)).map _ = _
  rw [e]; rfl

/-! ### the pot -/
/-- d's dict, its two lists below it, fewer than n draws so far -/
structure Pot (d n : Nat) (s : Sto) : Prop where
  ex : ∃ (a c : Nat) (deep all : List Int) (times : Int), s.get d = some (.dct [(.inr "deep", .loc a), (.inr "all", .loc c), (.inr "times", .int times)]) ∧ s.get a = some (.lst (deep.map .int)) ∧ s.get c = some (.lst (all.map .int)) ∧
    a < c ∧ c < d ∧ 0 < all.length ∧ all.length ≤ 1000 ∧ deep.length ≤ 1000 ∧ 0 ≤ times ∧ times ≤ n
theorem Pot.mono {d n m : Nat} {s : Sto} (p : Pot d n s) (h : n ≤ m) : Pot d m s := by
  obtain ⟨a, c, deep, all, times, h1, h2, h3, h4, h5, h6, h7, h8, h9, h10⟩ := p.ex
  exact ⟨a, c, deep, all, times, h1, h2, h3, h4, h5, h6, h7, h8, h9, by omega⟩
/-- nothing behind d is changed -/
structure Frm (d : Nat) (s s' : Sto) : Prop where
  len : s'.len = s.len
  kp : s'.kp = s.kp
  get : ∀ i, d < i → s'.get i = s.get i
theorem Frm.refl {d : Nat} {s : Sto} : Frm d s s := ⟨rfl, rfl, fun _ _ => rfl⟩
theorem Frm.trans {d : Nat} {s1 s2 s3 : Sto} (a : Frm d s1 s2) (b : Frm d s2 s3) : Frm d s1 s3 := ⟨b.len.trans a.len, b.kp.trans a.kp, fun i h => (b.get i h).trans (a.get i h)⟩
/-- .. apart from what is new -/
structure Frn (d : Nat) (s s' : Sto) : Prop where
  len : s.len ≤ s'.len
  kp : s'.kp = s.kp
  get : ∀ i, d < i → i < s.len → s'.get i = s.get i
theorem Frn.refl {d : Nat} {s : Sto} : Frn d s s := ⟨Nat.le_refl _, rfl, fun _ _ _ => rfl⟩
theorem Frn.trans {d : Nat} {s1 s2 s3 : Sto} (a : Frn d s1 s2) (b : Frn d s2 s3) : Frn d s1 s3 := ⟨Nat.le_trans a.len b.len, b.kp.trans a.kp, fun i h h2 => (b.get i h (Nat.lt_of_lt_of_le h2 a.len)).trans (a.get i h h2)⟩
theorem Frm.frn {d : Nat} {s s' : Sto} (a : Frm d s s') : Frn d s s' := ⟨Nat.le_of_eq a.len.symm, a.kp, fun i h _ => a.get i h⟩
theorem Frn.add {d : Nat} {s : Sto} {o : O} : Frn d s (s.add o) := ⟨by rw [len_add]; omega, rfl, fun i _ h => by
  show (s.os ++ [o])[i]? = s.os[i]?
  rw [List.getElem?_append_left h]⟩
theorem Frn.put {d m : Nat} {s : Sto} {o : O} (h : m ≤ d) (hh : o.hi ≤ m) : Frn d s (s.put m o) := ⟨Nat.le_of_eq len_put.symm, kp_put hh, fun i hi _ => get_put_ne (by omega)⟩
theorem Frn.putNew {d m : Nat} {s s' : Sto} {o : O} (a : Frn d s s') (h : s.len ≤ m) (hh : o.hi ≤ m) : Frn d s (s'.put m o) := ⟨by rw [len_put]; exact a.len, by rw [kp_put hh]; exact a.kp, fun i hi h2 => by rw [get_put_ne (by omega)]; exact a.get i hi h2⟩
theorem Pot.lt {d n : Nat} {s : Sto} (p : Pot d n s) : d < s.len := by
  obtain ⟨a, c, deep, all, times, h1, _⟩ := p.ex
  exact lt_of_get h1
/-- what lies below is as it was -/
theorem Pot.of_low {d n : Nat} {s s' : Sto} (p : Pot d n s) (h : ∀ i, i ≤ d → s'.get i = s.get i) : Pot d n s' := by
  obtain ⟨a, c, deep, all, times, h1, h2, h3, h4, h5, h6⟩ := p.ex
  exact ⟨a, c, deep, all, times, by rw [h d (Nat.le_refl _)]; exact h1, by rw [h a (by omega)]; exact h2, by rw [h c (by omega)]; exact h3, h4, h5, h6⟩
theorem Pot.add {d n : Nat} {s : Sto} {o : O} (p : Pot d n s) : Pot d n (s.add o) := p.of_low fun i hi => by
  have := p.lt
  show (s.os ++ [o])[i]? = s.os[i]?
  rw [List.getElem?_append_left (by show i < s.len; omega)]
theorem Pot.put {d n m : Nat} {s : Sto} {o : O} (p : Pot d n s) (h : d < m) : Pot d n (s.put m o) := p.of_low fun i hi => get_put_ne (by omega)
/-- garbage behind goes -/
theorem gc_frn {d n : Nat} {s s' : Sto} {t : T} (f : Frn d s s') (p : Pot d n s') (h : t.hi ≤ s.len) (hd : d < s.len) : ∃ s2, gcR s.len s.kp (.ok t s') = .ok t s2 ∧ Frm d s s2 ∧ Pot d n s2 := by
  refine ⟨s'.cut s.len, ?_, ?_, ?_⟩
  · simp only [gcR, f.kp, if_true]
    rw [Nat.max_eq_left h]
  · refine ⟨?_, f.kp, fun i hi => ?_⟩
    · have := f.len
      simp only [Sto.len, Sto.cut, List.length_take] at *
      omega
    · by_cases hl : i < s.len
      · rw [← f.get i hi hl]
        show (s'.os.take s.len)[i]? = s'.os[i]?
        rw [List.getElem?_take_of_lt hl]
      · have e1 : s.get i = none := List.getElem?_eq_none (by simpa [Sto.len] using hl)
        rw [e1]
        exact List.getElem?_eq_none (by simp only [Sto.cut, List.length_take]; omega)
  · refine p.of_low fun i hi => ?_
    show (s'.os.take s.len)[i]? = s'.os[i]?
    rw [List.getElem?_take_of_lt (by omega)]
end Fx

set_option maxRecDepth 100000
set_option maxHeartbeats 4000000
/-! Fx: the laws' draws: the three defs. -/
namespace Fx
open PySem L2 PyProof.Rows
noncomputable def PB_opened (C : CallT) : Sv := (sSeq (sAsg (eComp (lComp (iSeq (eSl (eVar 0) pNone (pSome (eC (.int 64))))) (gNm 2) bYes (eB fAbs (lCons (eVar 2) lNil)) [2])) (gNm 1))
  (sRet (eDct [((eC (.str "deep")), (eComp (lComp (iSeq (eVar 1)) (gNm 2) (bV (eBin oGe (eVar 2) (eBin oPow (eC (.int 10)) (eC (.int 18))))) (eVar 2) [2]))), ((eC (.str "all")), (eBin oAdd (eVar 1) (eBin oMul (eLst (lCons (eC (.int 53)) lNil)) (eB fInt (lCons (eBin oEq (eVar 1) (eLst lNil)) lNil))))), ((eC (.str "times")), (eC (.int 0)))])))
noncomputable def PB_draw (C : CallT) : Sv := (sSeq (sWhile (bV (eBin oNe (eBin oIx (eVar 0) (eC (.str "deep"))) (eLst lNil))) (sSeq (sAsg (eM "list" mPop (eBin oIx (eVar 0) (eC (.str "deep"))) (lCons (eC (.int 0)) lNil)) (gNm 2))
  (sIf (bV (eBin oGt (eVar 2) (eC (.int 0)))) (sSeq (sEx (eM "list" mInsert (eBin oIx (eVar 0) (eC (.str "deep"))) (lCons (eC (.int 0)) (lCons (eBin oDiv (eVar 2) (eVar 1)) lNil))))
  (sRet (eBin oMod (eVar 2) (eVar 1)))) sNil)))
  (sSeq (sPar 3 4 (lCons (eBin oIx (eVar 0) (eC (.str "times"))) (lCons (eBin oIx (eVar 0) (eC (.str "all"))) lNil)))
  (sSeq (sAsg (eBin oAdd (eVar 3) (eC (.int 1))) (gSubF (eVar 0) (eC (.str "times"))))
  (sSeq (sAsg (eBin oAdd (eBin oMod (eBin oIx (eVar 4) (eBin oMod (eVar 3) (eB fLen (lCons (eVar 4) lNil)))) (eC (.int 4294967291))) (eBin oMul (eC (.int 2246822519)) (eBin oAdd (eVar 3) (eC (.int 1))))) (gNm 5))
  (sSeq (sAsg (eBin oMod (eBin oMul (eBin oMod (eVar 5) (eC (.int 4294967291))) (eBin oAdd (eBin oMod (eVar 5) (eC (.int 50021))) (eC (.int 13)))) (eC (.int 4294967291))) (gNm 5))
  (sSeq (sAsg (eBin oMod (eBin oMul (eBin oMod (eBin oAdd (eBin oMul (eVar 5) (eVar 5)) (eBin oMul (eC (.int 668265263)) (eVar 3))) (eC (.int 4294967291))) (eC (.int 374761393))) (eC (.int 4294967291))) (gNm 5))
  (sRet (eBin oMod (eBin oDiv (eVar 5) (eC (.int 16))) (eVar 1)))))))))
noncomputable def PB_one (C : CallT) : Sv := (sRet (eBin oIx (eVar 1) (eCall C "_law_draw" (lDef (lCons (eVar 0) (lCons (eB fLen (lCons (eVar 1) lNil)) lNil)) []))))
noncomputable def dC : Bv := (bV (eBin oNe (eBin oIx (eVar 0) (eC (.str "deep"))) (eLst lNil)))
noncomputable def dB : Sv := (sSeq (sAsg (eM "list" mPop (eBin oIx (eVar 0) (eC (.str "deep"))) (lCons (eC (.int 0)) lNil)) (gNm 2))
  (sIf (bV (eBin oGt (eVar 2) (eC (.int 0)))) (sSeq (sEx (eM "list" mInsert (eBin oIx (eVar 0) (eC (.str "deep"))) (lCons (eC (.int 0)) (lCons (eBin oDiv (eVar 2) (eVar 1)) lNil))))
  (sRet (eBin oMod (eVar 2) (eVar 1)))) sNil))
noncomputable def restB (C : CallT) : Sv := (sSeq (sPar 3 4 (lCons (eBin oIx (eVar 0) (eC (.str "times"))) (lCons (eBin oIx (eVar 0) (eC (.str "all"))) lNil)))
  (sSeq (sAsg (eBin oAdd (eVar 3) (eC (.int 1))) (gSubF (eVar 0) (eC (.str "times"))))
  (sSeq (sAsg (eBin oAdd (eBin oMod (eBin oIx (eVar 4) (eBin oMod (eVar 3) (eB fLen (lCons (eVar 4) lNil)))) (eC (.int 4294967291))) (eBin oMul (eC (.int 2246822519)) (eBin oAdd (eVar 3) (eC (.int 1))))) (gNm 5))
  (sSeq (sAsg (eBin oMod (eBin oMul (eBin oMod (eVar 5) (eC (.int 4294967291))) (eBin oAdd (eBin oMod (eVar 5) (eC (.int 50021))) (eC (.int 13)))) (eC (.int 4294967291))) (gNm 5))
  (sSeq (sAsg (eBin oMod (eBin oMul (eBin oMod (eBin oAdd (eBin oMul (eVar 5) (eVar 5)) (eBin oMul (eC (.int 668265263)) (eVar 3))) (eC (.int 4294967291))) (eC (.int 374761393))) (eC (.int 4294967291))) (gNm 5))
  (sRet (eBin oMod (eBin oDiv (eVar 5) (eC (.int 16))) (eVar 1))))))))
theorem lst_ints_hi {l : List Int} : O.hi (.lst (l.map T.int)) = 0 := by
  show T.his _ = 0
  induction l with
  | nil => rfl
  | cons a r ih => rw [List.map_cons, T.his, ih]; rfl
section
variable {d a c m : Nat} {s s0 : Sto} {deep all : List Int} {times many : Int} {k : Nat} {p : String → Option FnD}
theorem dget_deep {x y z : T} : dGet [(.inr "deep", x), (.inr "all", y), (.inr "times", z)] (.inr "deep") = some x := rfl
theorem dget_all {x y z : T} : dGet [(.inr "deep", x), (.inr "all", y), (.inr "times", z)] (.inr "all") = some y := rfl
theorem dget_times {x y z : T} : dGet [(.inr "deep", x), (.inr "all", y), (.inr "times", z)] (.inr "times") = some z := rfl
theorem dput_times {x y z w : T} : dPut [(.inr "deep", x), (.inr "all", y), (.inr "times", z)] (.inr "times") w = [(.inr "deep", x), (.inr "all", y), (.inr "times", w)] := by
  have e : dHas [(.inr "deep", x), (.inr "all", y), (.inr "times", z)] (.inr "times") = true := by simp [dHas, dget_times]
  unfold dPut
  rw [e]
  have h1 : ¬ ((.inr "deep" : Key) = .inr "times") := by decide
  have h2 : ¬ ((.inr "all" : Key) = .inr "times") := by decide
  simp [h1, h2]
/-- the pot's parts in the midst of a draw -/
structure Mid (d a c : Nat) (all : List Int) (times : Int) (s0 : Sto) (L : Nat) (s : Sto) : Prop where
  dct : s.get d = some (.dct [(.inr "deep", .loc a), (.inr "all", .loc c), (.inr "times", .int times)])
  dp : ∃ deep : List Int, s.get a = some (.lst (deep.map .int)) ∧ deep.length ≤ L
  al : s.get c = some (.lst (all.map .int))
  fr : Frn d s0 s
abbrev dE (d : Nat) (many : Int) (x : Option T) : Env := [some (.loc d), some (.int many), x, none, none, none]
theorem draw_loop (hac : a < c) (hcd : c < d) (hm : 0 < many) (hm2 : okN many = true) : ∀ (deep : List Int) (N : Nat) (x : Option T) (s : Sto), deep.length < N → deep.length ≤ 1000 → s.get d = some (.dct [(.inr "deep", .loc a), (.inr "all", .loc c), (.inr "times", .int times)]) →
    s.get a = some (.lst (deep.map .int)) → s.get c = some (.lst (all.map .int)) → Frn d s0 s → d < s.len →
    TurnE (fun r' s' => (∃ x', r' = dE d many x') ∧ Mid d a c all times s0 1000 s') (fun t s' => ∃ v, t = .int v ∧ 0 ≤ v ∧ v < many ∧ Mid d a c all times s0 1000 s') (whileN dC dB N (dE d many x) s)
  | deep, 0, x, s, h, _, _, _, _, _, _ => by omega
  | [], N + 1, x, s, h, hL, h1, h2, h3, hf, hd => by
    have e := ne_nil (get_add_old (o := .lst []) h2) get_add
    have e1 := get_add_old (o := .lst []) h1
    have hc : dC (dE d many x) s = .ok false (s.add (.lst [])) := by
      unfold dC
      simp only [h1, dget_deep, e, List.isEmpty_nil, ev_var, ev_var1, ev_c, ev_vout, ev_bin, ev_bin1, ev_bin2, ev_un, ev_un1, ev_lnil, ev_lcons, ev_lcons1, ev_lcons2, ev_ldef, ev_ldef1, ev_lstar, ev_lstar1, ev_lstar1b, ev_lstar2, ev_tup, ev_tup1, ev_lst, ev_lst1, ev_lchk, ev_lchk1, ev_call, ev_call1, ev_g, ev_b, ev_b1, ev_tmp, ev_tmp1, ev_comp, ev_comp1, ev_if, ev_if1t, ev_if1f, ev_bt, ev_bt1, ev_bt2, ev_bv, ev_bv1, ev_bnot, ev_bnot1, ev_band, ev_band1t, ev_band1f, ev_bor, ev_bor1t, ev_bor1f, ev_byes, ev_eand, ev_eand1, ev_eand2t, ev_eand2f, ev_eor, ev_eor1, ev_eor2t, ev_eor2f, ev_enot, ev_enot1, ev_enot2, ev_ch, ev_ch1, ev_ch2, ev_ch3t, ev_ch3f, ev_ch4, ev_m, ev_m1, ev_m2, ev_m3, ev_jo, ev_jo1, ev_jo2, ev_fs, ev_jfn, ev_jfc, ev_jf1, ev_dct, ev_kvn, ev_kvc, ev_kv1, ev_kv2, ev_kv3, ev_dct1, ev_pn, ev_ps, ev_ps1, ev_sl, ev_sl1, ev_sl2, ev_sl3, ev_snil, ev_seq, ev_seqn, ev_seqr, ev_seqb, ev_seqc, ev_seqx, ev_sex, ev_sex1, ev_ret, ev_ret1, ev_retn, ev_sif, ev_sif1t, ev_sif1f, ev_brk, ev_cnt, ev_asg, ev_asg1, ev_gnm, ev_gnil, ev_gcons, ev_gcons1, ev_gtp, ev_gst, ev_gst1, ev_gsub, ev_gsub1, ev_gsub2, ev_gsub3, ev_par, ev_par1, ev_par3, ev_par31, ev_aug, ev_aug1, ev_aug2, ev_aug3, ev_for, ev_for1, ev_lcomp, ev_lcomp1, ev_wipn, ev_wipc, ev_iseq, ev_iseq1, ev_seqt, ev_seqf, ev_seqs, ev_seql, ev_seql1, ev_rg1, ev_rg11, ev_rg2, ev_rg21, ev_en, ev_en1, ev_en2, ev_outr, ev_outn, ev_outx, ev_ixi, ev_ixk, ev_ixl, ev_ixll, ev_ixld, ev_ixkk, ev_ix1, ev_ixt, ev_ixf, vv_oAdd, vv_oAddI, vv_oSub, vv_oLt, vv_oLe, vv_oGt, vv_oGe, vv_oEq, vv_oNe, vv_eqs, vv_nes, vv_eqns, vv_isn, vv_notn, vv_in_non, vv_in_bl, vv_in_int, vv_in_str, vv_in_tup, vv_in_frz, vv_in_loc, vv_neg, vv_tb, vv_ti, vv_tn, vv_tt, vv_tf, vv_mul, vv_div, vv_mod, vv_pow7, vv_pow8, vv_pow9, vv_pow18, vv_pow12, vv_pow6, vv_pow5, vv_pow4, vv_pow10, vv_pow16, vv_abs, vv_min, vv_max, vv_inti, vv_intb, vv_stri, vv_strs, vv_lent, vv_lenf, vv_lens, vv_htup, vv_hlen, vv_is_non_bool, vv_is_non_int, vv_is_non_str, vv_is_non_tuple, vv_is_bl_bool, vv_is_bl_int, vv_is_bl_str, vv_is_bl_tuple, vv_is_int_bool, vv_is_int_int, vv_is_int_str, vv_is_int_tuple, vv_is_str_bool, vv_is_str_int, vv_is_str_str, vv_is_str_tuple, vv_is_tup_bool, vv_is_tup_int, vv_is_tup_str, vv_is_tup_tuple, vv_is_frz_bool, vv_is_frz_int, vv_is_frz_str, vv_is_frz_tuple, vv_iss, vv_items_t, vv_items_f, vv_spl, vv_fmts, vv_fmti, vv_cats, vv_cast0, vv_cast1, vv_cast2, vv_cast3, vv_cast4, vv_cast5, vv_cast6, vv_cast7, vv_cast8, vv_cast9, vv_cast10, vv_cast11, vv_line0, vv_line1, vv_line2, vv_line3, vv_line4, vv_line5, vv_line6, vv_line7, vv_line8, vv_isl, vv_isl1, vv_lenl, vv_lenl1, vv_tupl, vv_tupl1, vv_items_l, vv_items_l1, vv_lst_f, vv_lst_l, vv_lst_l1, vv_app, vv_app1, vv_pop0, vv_pop01, vv_ins0, vv_ins01, vv_mull, vv_mull0, vv_mull1, vv_addl, vv_addl1, vv_slf, vv_slt, List.getElem?_cons_zero, List.getElem?_cons_succ, List.set_cons_zero, List.set_cons_succ, List.map_cons, List.map_nil, List.length_cons, List.length_nil, List.replicate_succ, List.replicate_zero, List.cons_append, List.nil_append, List.append_nil, Option.map_some, Option.map_none, Option.bind_some, Nat.reduceSub, Nat.reduceAdd, Nat.reduceMul, Nat.reduceLeDiff, Nat.zero_le, Int.reduceLT, Int.reduceLE, Int.reduceNeg, Int.reduceAdd, Int.reduceEq, Int.reduceMul, Int.reduceSub, eq_self, Bool.not_true, Bool.not_false, Bool.and_true, Bool.true_and, Bool.and_false, Bool.false_and, Bool.or_true, Bool.true_or, Bool.or_false, Bool.false_or, decide_true, decide_false, if_true, if_false, ite_true, ite_false, Bool.false_eq_true, and_true, true_and, and_false, false_and, not_true_eq_false, not_false_eq_true]
    rw [whileN, hc]
    exact ⟨⟨x, rfl⟩, e1, ⟨[], get_add_old h2, by simp⟩, get_add_old h3, hf.trans Frn.add⟩
  | y :: deep, N + 1, x, s, h, hL, h1, h2, h3, hf, hd => by
    have e := ne_nil (get_add_old (o := .lst []) h2) get_add
    have e1 := get_add_old (o := .lst []) h1
    have e2 := get_add_old (o := .lst []) h2
    have e3 := get_add_old (o := .lst []) h3
    have hf1 := hf.trans (Frn.add (d := d) (s := s) (o := .lst []))
    have hd1 : d < (s.add (.lst [])).len := by rw [len_add]; omega
    have hc : dC (dE d many x) s = .ok true (s.add (.lst [])) := by
      unfold dC
      simp only [h1, dget_deep, e, List.isEmpty_cons, ev_var, ev_var1, ev_c, ev_vout, ev_bin, ev_bin1, ev_bin2, ev_un, ev_un1, ev_lnil, ev_lcons, ev_lcons1, ev_lcons2, ev_ldef, ev_ldef1, ev_lstar, ev_lstar1, ev_lstar1b, ev_lstar2, ev_tup, ev_tup1, ev_lst, ev_lst1, ev_lchk, ev_lchk1, ev_call, ev_call1, ev_g, ev_b, ev_b1, ev_tmp, ev_tmp1, ev_comp, ev_comp1, ev_if, ev_if1t, ev_if1f, ev_bt, ev_bt1, ev_bt2, ev_bv, ev_bv1, ev_bnot, ev_bnot1, ev_band, ev_band1t, ev_band1f, ev_bor, ev_bor1t, ev_bor1f, ev_byes, ev_eand, ev_eand1, ev_eand2t, ev_eand2f, ev_eor, ev_eor1, ev_eor2t, ev_eor2f, ev_enot, ev_enot1, ev_enot2, ev_ch, ev_ch1, ev_ch2, ev_ch3t, ev_ch3f, ev_ch4, ev_m, ev_m1, ev_m2, ev_m3, ev_jo, ev_jo1, ev_jo2, ev_fs, ev_jfn, ev_jfc, ev_jf1, ev_dct, ev_kvn, ev_kvc, ev_kv1, ev_kv2, ev_kv3, ev_dct1, ev_pn, ev_ps, ev_ps1, ev_sl, ev_sl1, ev_sl2, ev_sl3, ev_snil, ev_seq, ev_seqn, ev_seqr, ev_seqb, ev_seqc, ev_seqx, ev_sex, ev_sex1, ev_ret, ev_ret1, ev_retn, ev_sif, ev_sif1t, ev_sif1f, ev_brk, ev_cnt, ev_asg, ev_asg1, ev_gnm, ev_gnil, ev_gcons, ev_gcons1, ev_gtp, ev_gst, ev_gst1, ev_gsub, ev_gsub1, ev_gsub2, ev_gsub3, ev_par, ev_par1, ev_par3, ev_par31, ev_aug, ev_aug1, ev_aug2, ev_aug3, ev_for, ev_for1, ev_lcomp, ev_lcomp1, ev_wipn, ev_wipc, ev_iseq, ev_iseq1, ev_seqt, ev_seqf, ev_seqs, ev_seql, ev_seql1, ev_rg1, ev_rg11, ev_rg2, ev_rg21, ev_en, ev_en1, ev_en2, ev_outr, ev_outn, ev_outx, ev_ixi, ev_ixk, ev_ixl, ev_ixll, ev_ixld, ev_ixkk, ev_ix1, ev_ixt, ev_ixf, vv_oAdd, vv_oAddI, vv_oSub, vv_oLt, vv_oLe, vv_oGt, vv_oGe, vv_oEq, vv_oNe, vv_eqs, vv_nes, vv_eqns, vv_isn, vv_notn, vv_in_non, vv_in_bl, vv_in_int, vv_in_str, vv_in_tup, vv_in_frz, vv_in_loc, vv_neg, vv_tb, vv_ti, vv_tn, vv_tt, vv_tf, vv_mul, vv_div, vv_mod, vv_pow7, vv_pow8, vv_pow9, vv_pow18, vv_pow12, vv_pow6, vv_pow5, vv_pow4, vv_pow10, vv_pow16, vv_abs, vv_min, vv_max, vv_inti, vv_intb, vv_stri, vv_strs, vv_lent, vv_lenf, vv_lens, vv_htup, vv_hlen, vv_is_non_bool, vv_is_non_int, vv_is_non_str, vv_is_non_tuple, vv_is_bl_bool, vv_is_bl_int, vv_is_bl_str, vv_is_bl_tuple, vv_is_int_bool, vv_is_int_int, vv_is_int_str, vv_is_int_tuple, vv_is_str_bool, vv_is_str_int, vv_is_str_str, vv_is_str_tuple, vv_is_tup_bool, vv_is_tup_int, vv_is_tup_str, vv_is_tup_tuple, vv_is_frz_bool, vv_is_frz_int, vv_is_frz_str, vv_is_frz_tuple, vv_iss, vv_items_t, vv_items_f, vv_spl, vv_fmts, vv_fmti, vv_cats, vv_cast0, vv_cast1, vv_cast2, vv_cast3, vv_cast4, vv_cast5, vv_cast6, vv_cast7, vv_cast8, vv_cast9, vv_cast10, vv_cast11, vv_line0, vv_line1, vv_line2, vv_line3, vv_line4, vv_line5, vv_line6, vv_line7, vv_line8, vv_isl, vv_isl1, vv_lenl, vv_lenl1, vv_tupl, vv_tupl1, vv_items_l, vv_items_l1, vv_lst_f, vv_lst_l, vv_lst_l1, vv_app, vv_app1, vv_pop0, vv_pop01, vv_ins0, vv_ins01, vv_mull, vv_mull0, vv_mull1, vv_addl, vv_addl1, vv_slf, vv_slt, List.getElem?_cons_zero, List.getElem?_cons_succ, List.set_cons_zero, List.set_cons_succ, List.map_cons, List.map_nil, List.length_cons, List.length_nil, List.replicate_succ, List.replicate_zero, List.cons_append, List.nil_append, List.append_nil, Option.map_some, Option.map_none, Option.bind_some, Nat.reduceSub, Nat.reduceAdd, Nat.reduceMul, Nat.reduceLeDiff, Nat.zero_le, Int.reduceLT, Int.reduceLE, Int.reduceNeg, Int.reduceAdd, Int.reduceEq, Int.reduceMul, Int.reduceSub, eq_self, Bool.not_true, Bool.not_false, Bool.and_true, Bool.true_and, Bool.and_false, Bool.false_and, Bool.or_true, Bool.true_or, Bool.or_false, Bool.false_or, decide_true, decide_false, if_true, if_false, ite_true, ite_false, Bool.false_eq_true, and_true, true_and, and_false, false_and, not_true_eq_false, not_false_eq_true]
    rw [whileN, hc]
    simp only [OutB.bndS, if_true]
    generalize s.add (.lst []) = s1 at *
    simp only [List.map_cons] at e2
    have hi : O.hi (.lst (deep.map T.int)) ≤ a := by rw [lst_ints_hi]; exact Nat.zero_le _
    have ha : a < s1.len := by omega
    have g1 : (s1.put a (.lst (deep.map .int))).get d = _ := (get_put_ne (by omega)).trans e1
    have g2 := get_put (o := .lst (deep.map T.int)) ha
    have g3 : (s1.put a (.lst (deep.map .int))).get c = _ := (get_put_ne (by omega)).trans e3
    have hf2 := hf1.trans (Frn.put (d := d) (s := s1) (m := a) (by omega) hi)
    have hd2 : d < (s1.put a (.lst (deep.map .int))).len := by rw [len_put]; exact hd1
    have hb : dB (dE d many x) s1 = (if 0 < y then .rt (.int (y % many)) ((s1.put a (.lst (deep.map .int))).put a (.lst ((y / many :: deep).map .int))) else .nx (dE d many (some (.int y))) (s1.put a (.lst (deep.map .int)))) := by
      unfold dB
      have z : (List.map T.int deep).length < sizeLine := by
        rw [List.length_map, sizeLine_eq]
        simp only [List.length_cons] at hL
        omega
      by_cases hy : 0 < y
      · simp only [e1, e2, dget_deep, g1, g2, hy, hm, hm2, z, ev_var, ev_var1, ev_c, ev_vout, ev_bin, ev_bin1, ev_bin2, ev_un, ev_un1, ev_lnil, ev_lcons, ev_lcons1, ev_lcons2, ev_ldef, ev_ldef1, ev_lstar, ev_lstar1, ev_lstar1b, ev_lstar2, ev_tup, ev_tup1, ev_lst, ev_lst1, ev_lchk, ev_lchk1, ev_call, ev_call1, ev_g, ev_b, ev_b1, ev_tmp, ev_tmp1, ev_comp, ev_comp1, ev_if, ev_if1t, ev_if1f, ev_bt, ev_bt1, ev_bt2, ev_bv, ev_bv1, ev_bnot, ev_bnot1, ev_band, ev_band1t, ev_band1f, ev_bor, ev_bor1t, ev_bor1f, ev_byes, ev_eand, ev_eand1, ev_eand2t, ev_eand2f, ev_eor, ev_eor1, ev_eor2t, ev_eor2f, ev_enot, ev_enot1, ev_enot2, ev_ch, ev_ch1, ev_ch2, ev_ch3t, ev_ch3f, ev_ch4, ev_m, ev_m1, ev_m2, ev_m3, ev_jo, ev_jo1, ev_jo2, ev_fs, ev_jfn, ev_jfc, ev_jf1, ev_dct, ev_kvn, ev_kvc, ev_kv1, ev_kv2, ev_kv3, ev_dct1, ev_pn, ev_ps, ev_ps1, ev_sl, ev_sl1, ev_sl2, ev_sl3, ev_snil, ev_seq, ev_seqn, ev_seqr, ev_seqb, ev_seqc, ev_seqx, ev_sex, ev_sex1, ev_ret, ev_ret1, ev_retn, ev_sif, ev_sif1t, ev_sif1f, ev_brk, ev_cnt, ev_asg, ev_asg1, ev_gnm, ev_gnil, ev_gcons, ev_gcons1, ev_gtp, ev_gst, ev_gst1, ev_gsub, ev_gsub1, ev_gsub2, ev_gsub3, ev_par, ev_par1, ev_par3, ev_par31, ev_aug, ev_aug1, ev_aug2, ev_aug3, ev_for, ev_for1, ev_lcomp, ev_lcomp1, ev_wipn, ev_wipc, ev_iseq, ev_iseq1, ev_seqt, ev_seqf, ev_seqs, ev_seql, ev_seql1, ev_rg1, ev_rg11, ev_rg2, ev_rg21, ev_en, ev_en1, ev_en2, ev_outr, ev_outn, ev_outx, ev_ixi, ev_ixk, ev_ixl, ev_ixll, ev_ixld, ev_ixkk, ev_ix1, ev_ixt, ev_ixf, vv_oAdd, vv_oAddI, vv_oSub, vv_oLt, vv_oLe, vv_oGt, vv_oGe, vv_oEq, vv_oNe, vv_eqs, vv_nes, vv_eqns, vv_isn, vv_notn, vv_in_non, vv_in_bl, vv_in_int, vv_in_str, vv_in_tup, vv_in_frz, vv_in_loc, vv_neg, vv_tb, vv_ti, vv_tn, vv_tt, vv_tf, vv_mul, vv_div, vv_mod, vv_pow7, vv_pow8, vv_pow9, vv_pow18, vv_pow12, vv_pow6, vv_pow5, vv_pow4, vv_pow10, vv_pow16, vv_abs, vv_min, vv_max, vv_inti, vv_intb, vv_stri, vv_strs, vv_lent, vv_lenf, vv_lens, vv_htup, vv_hlen, vv_is_non_bool, vv_is_non_int, vv_is_non_str, vv_is_non_tuple, vv_is_bl_bool, vv_is_bl_int, vv_is_bl_str, vv_is_bl_tuple, vv_is_int_bool, vv_is_int_int, vv_is_int_str, vv_is_int_tuple, vv_is_str_bool, vv_is_str_int, vv_is_str_str, vv_is_str_tuple, vv_is_tup_bool, vv_is_tup_int, vv_is_tup_str, vv_is_tup_tuple, vv_is_frz_bool, vv_is_frz_int, vv_is_frz_str, vv_is_frz_tuple, vv_iss, vv_items_t, vv_items_f, vv_spl, vv_fmts, vv_fmti, vv_cats, vv_cast0, vv_cast1, vv_cast2, vv_cast3, vv_cast4, vv_cast5, vv_cast6, vv_cast7, vv_cast8, vv_cast9, vv_cast10, vv_cast11, vv_line0, vv_line1, vv_line2, vv_line3, vv_line4, vv_line5, vv_line6, vv_line7, vv_line8, vv_isl, vv_isl1, vv_lenl, vv_lenl1, vv_tupl, vv_tupl1, vv_items_l, vv_items_l1, vv_lst_f, vv_lst_l, vv_lst_l1, vv_app, vv_app1, vv_pop0, vv_pop01, vv_ins0, vv_ins01, vv_mull, vv_mull0, vv_mull1, vv_addl, vv_addl1, vv_slf, vv_slt, List.getElem?_cons_zero, List.getElem?_cons_succ, List.set_cons_zero, List.set_cons_succ, List.map_cons, List.map_nil, List.length_cons, List.length_nil, List.replicate_succ, List.replicate_zero, List.cons_append, List.nil_append, List.append_nil, Option.map_some, Option.map_none, Option.bind_some, Nat.reduceSub, Nat.reduceAdd, Nat.reduceMul, Nat.reduceLeDiff, Nat.zero_le, Int.reduceLT, Int.reduceLE, Int.reduceNeg, Int.reduceAdd, Int.reduceEq, Int.reduceMul, Int.reduceSub, eq_self, Bool.not_true, Bool.not_false, Bool.and_true, Bool.true_and, Bool.and_false, Bool.false_and, Bool.or_true, Bool.true_or, Bool.or_false, Bool.false_or, decide_true, decide_false, if_true, if_false, ite_true, ite_false, Bool.false_eq_true, and_true, true_and, and_false, false_and, not_true_eq_false, not_false_eq_true]
      · simp only [e1, e2, dget_deep, g1, g2, hy, hm, hm2, z, ev_var, ev_var1, ev_c, ev_vout, ev_bin, ev_bin1, ev_bin2, ev_un, ev_un1, ev_lnil, ev_lcons, ev_lcons1, ev_lcons2, ev_ldef, ev_ldef1, ev_lstar, ev_lstar1, ev_lstar1b, ev_lstar2, ev_tup, ev_tup1, ev_lst, ev_lst1, ev_lchk, ev_lchk1, ev_call, ev_call1, ev_g, ev_b, ev_b1, ev_tmp, ev_tmp1, ev_comp, ev_comp1, ev_if, ev_if1t, ev_if1f, ev_bt, ev_bt1, ev_bt2, ev_bv, ev_bv1, ev_bnot, ev_bnot1, ev_band, ev_band1t, ev_band1f, ev_bor, ev_bor1t, ev_bor1f, ev_byes, ev_eand, ev_eand1, ev_eand2t, ev_eand2f, ev_eor, ev_eor1, ev_eor2t, ev_eor2f, ev_enot, ev_enot1, ev_enot2, ev_ch, ev_ch1, ev_ch2, ev_ch3t, ev_ch3f, ev_ch4, ev_m, ev_m1, ev_m2, ev_m3, ev_jo, ev_jo1, ev_jo2, ev_fs, ev_jfn, ev_jfc, ev_jf1, ev_dct, ev_kvn, ev_kvc, ev_kv1, ev_kv2, ev_kv3, ev_dct1, ev_pn, ev_ps, ev_ps1, ev_sl, ev_sl1, ev_sl2, ev_sl3, ev_snil, ev_seq, ev_seqn, ev_seqr, ev_seqb, ev_seqc, ev_seqx, ev_sex, ev_sex1, ev_ret, ev_ret1, ev_retn, ev_sif, ev_sif1t, ev_sif1f, ev_brk, ev_cnt, ev_asg, ev_asg1, ev_gnm, ev_gnil, ev_gcons, ev_gcons1, ev_gtp, ev_gst, ev_gst1, ev_gsub, ev_gsub1, ev_gsub2, ev_gsub3, ev_par, ev_par1, ev_par3, ev_par31, ev_aug, ev_aug1, ev_aug2, ev_aug3, ev_for, ev_for1, ev_lcomp, ev_lcomp1, ev_wipn, ev_wipc, ev_iseq, ev_iseq1, ev_seqt, ev_seqf, ev_seqs, ev_seql, ev_seql1, ev_rg1, ev_rg11, ev_rg2, ev_rg21, ev_en, ev_en1, ev_en2, ev_outr, ev_outn, ev_outx, ev_ixi, ev_ixk, ev_ixl, ev_ixll, ev_ixld, ev_ixkk, ev_ix1, ev_ixt, ev_ixf, vv_oAdd, vv_oAddI, vv_oSub, vv_oLt, vv_oLe, vv_oGt, vv_oGe, vv_oEq, vv_oNe, vv_eqs, vv_nes, vv_eqns, vv_isn, vv_notn, vv_in_non, vv_in_bl, vv_in_int, vv_in_str, vv_in_tup, vv_in_frz, vv_in_loc, vv_neg, vv_tb, vv_ti, vv_tn, vv_tt, vv_tf, vv_mul, vv_div, vv_mod, vv_pow7, vv_pow8, vv_pow9, vv_pow18, vv_pow12, vv_pow6, vv_pow5, vv_pow4, vv_pow10, vv_pow16, vv_abs, vv_min, vv_max, vv_inti, vv_intb, vv_stri, vv_strs, vv_lent, vv_lenf, vv_lens, vv_htup, vv_hlen, vv_is_non_bool, vv_is_non_int, vv_is_non_str, vv_is_non_tuple, vv_is_bl_bool, vv_is_bl_int, vv_is_bl_str, vv_is_bl_tuple, vv_is_int_bool, vv_is_int_int, vv_is_int_str, vv_is_int_tuple, vv_is_str_bool, vv_is_str_int, vv_is_str_str, vv_is_str_tuple, vv_is_tup_bool, vv_is_tup_int, vv_is_tup_str, vv_is_tup_tuple, vv_is_frz_bool, vv_is_frz_int, vv_is_frz_str, vv_is_frz_tuple, vv_iss, vv_items_t, vv_items_f, vv_spl, vv_fmts, vv_fmti, vv_cats, vv_cast0, vv_cast1, vv_cast2, vv_cast3, vv_cast4, vv_cast5, vv_cast6, vv_cast7, vv_cast8, vv_cast9, vv_cast10, vv_cast11, vv_line0, vv_line1, vv_line2, vv_line3, vv_line4, vv_line5, vv_line6, vv_line7, vv_line8, vv_isl, vv_isl1, vv_lenl, vv_lenl1, vv_tupl, vv_tupl1, vv_items_l, vv_items_l1, vv_lst_f, vv_lst_l, vv_lst_l1, vv_app, vv_app1, vv_pop0, vv_pop01, vv_ins0, vv_ins01, vv_mull, vv_mull0, vv_mull1, vv_addl, vv_addl1, vv_slf, vv_slt, List.getElem?_cons_zero, List.getElem?_cons_succ, List.set_cons_zero, List.set_cons_succ, List.map_cons, List.map_nil, List.length_cons, List.length_nil, List.replicate_succ, List.replicate_zero, List.cons_append, List.nil_append, List.append_nil, Option.map_some, Option.map_none, Option.bind_some, Nat.reduceSub, Nat.reduceAdd, Nat.reduceMul, Nat.reduceLeDiff, Nat.zero_le, Int.reduceLT, Int.reduceLE, Int.reduceNeg, Int.reduceAdd, Int.reduceEq, Int.reduceMul, Int.reduceSub, eq_self, Bool.not_true, Bool.not_false, Bool.and_true, Bool.true_and, Bool.and_false, Bool.false_and, Bool.or_true, Bool.true_or, Bool.or_false, Bool.false_or, decide_true, decide_false, if_true, if_false, ite_true, ite_false, Bool.false_eq_true, and_true, true_and, and_false, false_and, not_true_eq_false, not_false_eq_true]
    rw [hb]
    by_cases hy : 0 < y
    · rw [if_pos hy]
      have hi2 : O.hi (.lst ((y / many :: deep).map T.int)) ≤ a := by rw [lst_ints_hi]; exact Nat.zero_le _
      refine ⟨y % many, rfl, Int.emod_nonneg _ (by omega), Int.emod_lt_of_pos _ hm, (get_put_ne (by omega)).trans g1, ⟨y / many :: deep, get_put (by rw [len_put]; exact ha), hL⟩, (get_put_ne (by omega)).trans g3, hf2.trans (Frn.put (by omega) hi2)⟩
    · rw [if_neg hy]
      simp only [List.length_cons] at h hL
      exact draw_loop hac hcd hm hm2 deep N _ _ (by omega) (by omega) g1 g2 g3 hf2 hd2
theorem draw_spec {n : Nat} (hp : p "_law_draw" = some ⟨2, 6, PB_draw⟩) (P : Pot d n s) (hn : n ≤ 1000000000000000000000000000000) (hm : 0 < many) (hm2 : many ≤ 1000000000000000000000000000000) :
    ∃ v s', run p (k + 1) "_law_draw" [.loc d, .int many] s = .ok (.int v) s' ∧ 0 ≤ v ∧ v < many ∧ Pot d (n + 1) s' ∧ Frm d s s' := by
  obtain ⟨a, c, deep, all, times, h1, h2, h3, h4, h5, h6, h7, h8, h9, h10⟩ := P.ex
  have hm3 : okN many = true := okN_small (by omega) (by omega)
  have hd := lt_of_get h1
  have body : ∃ v s', (PB_draw (run p k) (dE d many none) s).out = .ok (.int v) s' ∧ 0 ≤ v ∧ v < many ∧ Pot d (n + 1) s' ∧ Frn d s s' := by
    have z := draw_loop (s0 := s) h4 h5 hm hm3 deep wTurns none s (by unfold wTurns; omega) h8 h1 h2 h3 Frn.refl hd
    have e0 : PB_draw (run p k) = sSeq (sWhile dC dB) (restB (run p k)) := rfl
    rw [e0]
    unfold sSeq sWhile
    revert z
    cases whileN dC dB wTurns (dE d many none) s with
    | nx r' s1 =>
      rintro ⟨⟨x, rfl⟩, m1, ⟨dp, m2, m2'⟩, m3, m4⟩
      simp only
      have hl : (all.map T.int).length = all.length := List.length_map _
      have hq : 0 < ((all.map T.int).length : Int) := by rw [hl]; omega
      obtain ⟨t, t1, t2⟩ := atT_of (ts := all.map T.int) (i := times % ((all.map T.int).length : Int)) (Int.emod_nonneg _ (by omega)) (Int.emod_lt_of_pos _ hq)
      obtain ⟨y, rfl⟩ : ∃ y, t = .int y := by
        simp only [List.getElem?_map] at t2
        cases e : all[(times % ((all.map T.int).length : Int)).toNat]? with
        | none => rw [e] at t2; cases t2
        | some y => rw [e] at t2; cases t2; exact ⟨y, rfl⟩
      have ha : a < s1.len := lt_of_get m2
      have hd1 : d < s1.len := lt_of_get m1
      have hdc : O.hi (.dct [(.inr "deep", .loc a), (.inr "all", .loc c), (.inr "times", .int (times + 1))]) ≤ d := by
        simp only [O.hi, List.map_cons, List.map_nil, T.his, T.hi]; omega
      have g1 := get_put (o := .dct [(.inr "deep", .loc a), (.inr "all", .loc c), (.inr "times", .int (times + 1))]) hd1
      have g3 : (s1.put d (.dct [(.inr "deep", .loc a), (.inr "all", .loc c), (.inr "times", .int (times + 1))])).get c = _ := (get_put_ne (by omega)).trans m3
      have g2 : (s1.put d (.dct [(.inr "deep", .loc a), (.inr "all", .loc c), (.inr "times", .int (times + 1))])).get a = _ := (get_put_ne (by omega)).trans m2
      have st : setT (.loc d) (.str "times") (.int (times + 1)) s1 = some (s1.put d (.dct [(.inr "deep", .loc a), (.inr "all", .loc c), (.inr "times", .int (times + 1))])) := by
        simp only [setT, m1, keyT, dput_times]
        exact if_pos (show 3 < sizeLine by decide)
      have k1 : okN (times + 1) = true := okN_small (by omega) (by omega)
      have k2 : okN (2246822519 : Int) = true := by decide
      have k3 : okN (374761393 : Int) = true := by decide
      have k4 : okN (668265263 : Int) = true := by decide
      have k5 : okN times = true := okN_small (by omega) (by omega)
      have k6 : okN (16 : Int) = true := by decide
      have b1 : (0 : Int) < 4294967291 := by decide
      have b2 : (0 : Int) < 50021 := by decide
      have b3 : (0 : Int) < 16 := by decide
      obtain ⟨q1, hq1⟩ : ∃ q1, q1 = y % 4294967291 + 2246822519 * (times + 1) := ⟨_, rfl⟩
      have k7 : okN (q1 % 4294967291) = true := okN_small (by omega) (by omega)
      have k8 : okN (q1 % 50021 + 13) = true := okN_small (by omega) (by omega)
      obtain ⟨q2, hq2⟩ : ∃ q2, q2 = q1 % 4294967291 * (q1 % 50021 + 13) % 4294967291 := ⟨_, rfl⟩
      have k9 : okN q2 = true := okN_small (by omega) (by omega)
      have k10 : okN ((q2 * q2 + 668265263 * times) % 4294967291) = true := okN_small (by omega) (by omega)
      obtain ⟨q3, hq3⟩ : ∃ q3, q3 = (q2 * q2 + 668265263 * times) % 4294967291 * 374761393 % 4294967291 := ⟨_, rfl⟩
      have fin : (restB (run p k) (dE d many x) s1).out = .ok (.int (q3 / 16 % many)) (s1.put d (.dct [(.inr "deep", .loc a), (.inr "all", .loc c), (.inr "times", .int (times + 1))])) := by
        unfold restB
        simp only [m1, dget_all, dget_times, st, hq, t1, g3, k1, k2, k3, k4, k5, k6, b1, b2, b3, ← hq1, k7, k8, ← hq2, k9, k10, ← hq3, hm, ev_var, ev_var1, ev_c, ev_vout, ev_bin, ev_bin1, ev_bin2, ev_un, ev_un1, ev_lnil, ev_lcons, ev_lcons1, ev_lcons2, ev_ldef, ev_ldef1, ev_lstar, ev_lstar1, ev_lstar1b, ev_lstar2, ev_tup, ev_tup1, ev_lst, ev_lst1, ev_lchk, ev_lchk1, ev_call, ev_call1, ev_g, ev_b, ev_b1, ev_tmp, ev_tmp1, ev_comp, ev_comp1, ev_if, ev_if1t, ev_if1f, ev_bt, ev_bt1, ev_bt2, ev_bv, ev_bv1, ev_bnot, ev_bnot1, ev_band, ev_band1t, ev_band1f, ev_bor, ev_bor1t, ev_bor1f, ev_byes, ev_eand, ev_eand1, ev_eand2t, ev_eand2f, ev_eor, ev_eor1, ev_eor2t, ev_eor2f, ev_enot, ev_enot1, ev_enot2, ev_ch, ev_ch1, ev_ch2, ev_ch3t, ev_ch3f, ev_ch4, ev_m, ev_m1, ev_m2, ev_m3, ev_jo, ev_jo1, ev_jo2, ev_fs, ev_jfn, ev_jfc, ev_jf1, ev_dct, ev_kvn, ev_kvc, ev_kv1, ev_kv2, ev_kv3, ev_dct1, ev_pn, ev_ps, ev_ps1, ev_sl, ev_sl1, ev_sl2, ev_sl3, ev_snil, ev_seq, ev_seqn, ev_seqr, ev_seqb, ev_seqc, ev_seqx, ev_sex, ev_sex1, ev_ret, ev_ret1, ev_retn, ev_sif, ev_sif1t, ev_sif1f, ev_brk, ev_cnt, ev_asg, ev_asg1, ev_gnm, ev_gnil, ev_gcons, ev_gcons1, ev_gtp, ev_gst, ev_gst1, ev_gsub, ev_gsub1, ev_gsub2, ev_gsub3, ev_par, ev_par1, ev_par3, ev_par31, ev_aug, ev_aug1, ev_aug2, ev_aug3, ev_for, ev_for1, ev_lcomp, ev_lcomp1, ev_wipn, ev_wipc, ev_iseq, ev_iseq1, ev_seqt, ev_seqf, ev_seqs, ev_seql, ev_seql1, ev_rg1, ev_rg11, ev_rg2, ev_rg21, ev_en, ev_en1, ev_en2, ev_outr, ev_outn, ev_outx, ev_ixi, ev_ixk, ev_ixl, ev_ixll, ev_ixld, ev_ixkk, ev_ix1, ev_ixt, ev_ixf, vv_oAdd, vv_oAddI, vv_oSub, vv_oLt, vv_oLe, vv_oGt, vv_oGe, vv_oEq, vv_oNe, vv_eqs, vv_nes, vv_eqns, vv_isn, vv_notn, vv_in_non, vv_in_bl, vv_in_int, vv_in_str, vv_in_tup, vv_in_frz, vv_in_loc, vv_neg, vv_tb, vv_ti, vv_tn, vv_tt, vv_tf, vv_mul, vv_div, vv_mod, vv_pow7, vv_pow8, vv_pow9, vv_pow18, vv_pow12, vv_pow6, vv_pow5, vv_pow4, vv_pow10, vv_pow16, vv_abs, vv_min, vv_max, vv_inti, vv_intb, vv_stri, vv_strs, vv_lent, vv_lenf, vv_lens, vv_htup, vv_hlen, vv_is_non_bool, vv_is_non_int, vv_is_non_str, vv_is_non_tuple, vv_is_bl_bool, vv_is_bl_int, vv_is_bl_str, vv_is_bl_tuple, vv_is_int_bool, vv_is_int_int, vv_is_int_str, vv_is_int_tuple, vv_is_str_bool, vv_is_str_int, vv_is_str_str, vv_is_str_tuple, vv_is_tup_bool, vv_is_tup_int, vv_is_tup_str, vv_is_tup_tuple, vv_is_frz_bool, vv_is_frz_int, vv_is_frz_str, vv_is_frz_tuple, vv_iss, vv_items_t, vv_items_f, vv_spl, vv_fmts, vv_fmti, vv_cats, vv_cast0, vv_cast1, vv_cast2, vv_cast3, vv_cast4, vv_cast5, vv_cast6, vv_cast7, vv_cast8, vv_cast9, vv_cast10, vv_cast11, vv_line0, vv_line1, vv_line2, vv_line3, vv_line4, vv_line5, vv_line6, vv_line7, vv_line8, vv_isl, vv_isl1, vv_lenl, vv_lenl1, vv_tupl, vv_tupl1, vv_items_l, vv_items_l1, vv_lst_f, vv_lst_l, vv_lst_l1, vv_app, vv_app1, vv_pop0, vv_pop01, vv_ins0, vv_ins01, vv_mull, vv_mull0, vv_mull1, vv_addl, vv_addl1, vv_slf, vv_slt, List.getElem?_cons_zero, List.getElem?_cons_succ, List.set_cons_zero, List.set_cons_succ, List.map_cons, List.map_nil, List.length_cons, List.length_nil, List.replicate_succ, List.replicate_zero, List.cons_append, List.nil_append, List.append_nil, Option.map_some, Option.map_none, Option.bind_some, Nat.reduceSub, Nat.reduceAdd, Nat.reduceMul, Nat.reduceLeDiff, Nat.zero_le, Int.reduceLT, Int.reduceLE, Int.reduceNeg, Int.reduceAdd, Int.reduceEq, Int.reduceMul, Int.reduceSub, eq_self, Bool.not_true, Bool.not_false, Bool.and_true, Bool.true_and, Bool.and_false, Bool.false_and, Bool.or_true, Bool.true_or, Bool.or_false, Bool.false_or, decide_true, decide_false, if_true, if_false, ite_true, ite_false, Bool.false_eq_true, and_true, true_and, and_false, false_and, not_true_eq_false, not_false_eq_true]
      refine ⟨q3 / 16 % many, _, fin, Int.emod_nonneg _ (by omega), Int.emod_lt_of_pos _ hm, ⟨a, c, dp, all, times + 1, g1, g2, g3, h4, h5, h6, h7, m2', by omega, by omega⟩, m4.trans (Frn.put (Nat.le_refl _) hdc)⟩
    | rt t s1 =>
      rintro ⟨v, rfl, v1, v2, m1, ⟨dp, m2, m2'⟩, m3, m4⟩
      exact ⟨v, s1, rfl, v1, v2, ⟨a, c, dp, all, times, m1, m2, m3, h4, h5, h6, h7, m2', h9, by omega⟩, m4⟩
    | bk r' s1 => exact fun z => z.elim
    | ct r' s1 => exact fun z => z.elim
    | ex y r' s1 => exact fun z => z.elim
    | bad => exact fun z => z.elim
  obtain ⟨v, s', e, v1, v2, P', f⟩ := body
  obtain ⟨s2, e2, f2, P2⟩ := gc_frn (t := .int v) f P' (Nat.zero_le _) hd
  exact ⟨v, s2, (run_eq hp rfl).trans ((congrArg _ e).trans e2), v1, v2, P2, f2⟩
/-- items[_law_draw(pot, len(items))] -/
theorem one_spec {n : Nat} {us : List T} {l : Nat} (hp : p "_law_draw" = some ⟨2, 6, PB_draw⟩) (hp1 : p "_law_one" = some ⟨2, 2, PB_one⟩) (P : Pot d n s) (hn : n ≤ 1000000000000000000000000000000) (hl : s.get l = some (.lst us)) (hdl : d < l) (h1 : 0 < us.length) (h2 : us.length ≤ 1000) (hh : ∀ t ∈ us, t.hi ≤ s.len) :
    ∃ t s', run p (k + 2) "_law_one" [.loc d, .loc l] s = .ok t s' ∧ t ∈ us ∧ Pot d (n + 1) s' ∧ Frm d s s' := by
  obtain ⟨v, s1, e1, v1, v2, P1, f1⟩ := draw_spec (k := k) (many := us.length) hp P hn (by omega) (by omega)
  have g : s1.get l = some (.lst us) := (f1.get l hdl).trans hl
  obtain ⟨t, t1, t2⟩ := atT_of v1 v2
  have ht : t ∈ us := List.mem_of_getElem? t2
  have fin : (PB_one (run p (k + 1)) [some (.loc d), some (.loc l)] s).out = .ok t s1 := by
    unfold PB_one
    simp only [hl, e1, g, t1, ev_var, ev_var1, ev_c, ev_vout, ev_bin, ev_bin1, ev_bin2, ev_un, ev_un1, ev_lnil, ev_lcons, ev_lcons1, ev_lcons2, ev_ldef, ev_ldef1, ev_lstar, ev_lstar1, ev_lstar1b, ev_lstar2, ev_tup, ev_tup1, ev_lst, ev_lst1, ev_lchk, ev_lchk1, ev_call, ev_call1, ev_g, ev_b, ev_b1, ev_tmp, ev_tmp1, ev_comp, ev_comp1, ev_if, ev_if1t, ev_if1f, ev_bt, ev_bt1, ev_bt2, ev_bv, ev_bv1, ev_bnot, ev_bnot1, ev_band, ev_band1t, ev_band1f, ev_bor, ev_bor1t, ev_bor1f, ev_byes, ev_eand, ev_eand1, ev_eand2t, ev_eand2f, ev_eor, ev_eor1, ev_eor2t, ev_eor2f, ev_enot, ev_enot1, ev_enot2, ev_ch, ev_ch1, ev_ch2, ev_ch3t, ev_ch3f, ev_ch4, ev_m, ev_m1, ev_m2, ev_m3, ev_jo, ev_jo1, ev_jo2, ev_fs, ev_jfn, ev_jfc, ev_jf1, ev_dct, ev_kvn, ev_kvc, ev_kv1, ev_kv2, ev_kv3, ev_dct1, ev_pn, ev_ps, ev_ps1, ev_sl, ev_sl1, ev_sl2, ev_sl3, ev_snil, ev_seq, ev_seqn, ev_seqr, ev_seqb, ev_seqc, ev_seqx, ev_sex, ev_sex1, ev_ret, ev_ret1, ev_retn, ev_sif, ev_sif1t, ev_sif1f, ev_brk, ev_cnt, ev_asg, ev_asg1, ev_gnm, ev_gnil, ev_gcons, ev_gcons1, ev_gtp, ev_gst, ev_gst1, ev_gsub, ev_gsub1, ev_gsub2, ev_gsub3, ev_par, ev_par1, ev_par3, ev_par31, ev_aug, ev_aug1, ev_aug2, ev_aug3, ev_for, ev_for1, ev_lcomp, ev_lcomp1, ev_wipn, ev_wipc, ev_iseq, ev_iseq1, ev_seqt, ev_seqf, ev_seqs, ev_seql, ev_seql1, ev_rg1, ev_rg11, ev_rg2, ev_rg21, ev_en, ev_en1, ev_en2, ev_outr, ev_outn, ev_outx, ev_ixi, ev_ixk, ev_ixl, ev_ixll, ev_ixld, ev_ixkk, ev_ix1, ev_ixt, ev_ixf, vv_oAdd, vv_oAddI, vv_oSub, vv_oLt, vv_oLe, vv_oGt, vv_oGe, vv_oEq, vv_oNe, vv_eqs, vv_nes, vv_eqns, vv_isn, vv_notn, vv_in_non, vv_in_bl, vv_in_int, vv_in_str, vv_in_tup, vv_in_frz, vv_in_loc, vv_neg, vv_tb, vv_ti, vv_tn, vv_tt, vv_tf, vv_mul, vv_div, vv_mod, vv_pow7, vv_pow8, vv_pow9, vv_pow18, vv_pow12, vv_pow6, vv_pow5, vv_pow4, vv_pow10, vv_pow16, vv_abs, vv_min, vv_max, vv_inti, vv_intb, vv_stri, vv_strs, vv_lent, vv_lenf, vv_lens, vv_htup, vv_hlen, vv_is_non_bool, vv_is_non_int, vv_is_non_str, vv_is_non_tuple, vv_is_bl_bool, vv_is_bl_int, vv_is_bl_str, vv_is_bl_tuple, vv_is_int_bool, vv_is_int_int, vv_is_int_str, vv_is_int_tuple, vv_is_str_bool, vv_is_str_int, vv_is_str_str, vv_is_str_tuple, vv_is_tup_bool, vv_is_tup_int, vv_is_tup_str, vv_is_tup_tuple, vv_is_frz_bool, vv_is_frz_int, vv_is_frz_str, vv_is_frz_tuple, vv_iss, vv_items_t, vv_items_f, vv_spl, vv_fmts, vv_fmti, vv_cats, vv_cast0, vv_cast1, vv_cast2, vv_cast3, vv_cast4, vv_cast5, vv_cast6, vv_cast7, vv_cast8, vv_cast9, vv_cast10, vv_cast11, vv_line0, vv_line1, vv_line2, vv_line3, vv_line4, vv_line5, vv_line6, vv_line7, vv_line8, vv_isl, vv_isl1, vv_lenl, vv_lenl1, vv_tupl, vv_tupl1, vv_items_l, vv_items_l1, vv_lst_f, vv_lst_l, vv_lst_l1, vv_app, vv_app1, vv_pop0, vv_pop01, vv_ins0, vv_ins01, vv_mull, vv_mull0, vv_mull1, vv_addl, vv_addl1, vv_slf, vv_slt, List.getElem?_cons_zero, List.getElem?_cons_succ, List.set_cons_zero, List.set_cons_succ, List.map_cons, List.map_nil, List.length_cons, List.length_nil, List.replicate_succ, List.replicate_zero, List.cons_append, List.nil_append, List.append_nil, Option.map_some, Option.map_none, Option.bind_some, Nat.reduceSub, Nat.reduceAdd, Nat.reduceMul, Nat.reduceLeDiff, Nat.zero_le, Int.reduceLT, Int.reduceLE, Int.reduceNeg, Int.reduceAdd, Int.reduceEq, Int.reduceMul, Int.reduceSub, eq_self, Bool.not_true, Bool.not_false, Bool.and_true, Bool.true_and, Bool.and_false, Bool.false_and, Bool.or_true, Bool.true_or, Bool.or_false, Bool.false_or, decide_true, decide_false, if_true, if_false, ite_true, ite_false, Bool.false_eq_true, and_true, true_and, and_false, false_and, not_true_eq_false, not_false_eq_true]
  obtain ⟨s2, e2, f2, P2⟩ := gc_frn (t := t) f1.frn P1 (hh t ht) P.lt
  exact ⟨t, s2, (run_eq hp1 rfl).trans ((congrArg _ fin).trans e2), ht, P2, f2⟩
end
end Fx

set_option maxRecDepth 100000
set_option maxHeartbeats 4000000
/-! Fx: the pot opened. -/
namespace Fx
open PySem L2 PyProof.Rows
section
variable {s : Sto} {k : Nat} {p : String → Option FnD}
theorem cut_to {ts : List T} {n : Nat} : cutT ts none (some (n : Int)) = ts.take n := by
  unfold cutT
  have e : sIx ts.length ts.length (some (n : Int)) = min n ts.length := HT.sIx_nat _ _ _
  have e2 : sIx ts.length 0 none = 0 := rfl
  rw [e, e2]
  simp only [List.drop_zero, Nat.sub_zero]
  by_cases h : n ≤ ts.length
  · rw [Nat.min_eq_left h]
  · rw [Nat.min_eq_right (by omega), List.take_of_length_le (Nat.le_refl _), List.take_of_length_le (by omega)]
theorem get_lt_add {o : O} {i : Nat} (h : i < s.len) : (s.add o).get i = s.get i := by
  show (s.os ++ [o])[i]? = s.os[i]?
  rw [List.getElem?_append_left h]
theorem opened_spec {ns : List Int} (hp : p "_law_opened" = some ⟨1, 3, PB_opened⟩) (hl : ns.length ≤ 63) :
    ∃ d s', run p (k + 1) "_law_opened" [.frz (ns.map .int)] s = .ok (.loc d) s' ∧ Pot d 0 s' ∧ s.len ≤ d ∧ s'.kp = s.kp ∧ d < s'.len := by
  have e64 : (64 : Int) = ((64 : Nat) : Int) := rfl
  have tk : (ns.map T.int).take 64 = ns.map T.int := List.take_of_length_le (by rw [List.length_map]; omega)
  -- the cells
  let ab : Int → Int := fun i => if i < 0 then -i else i
  let s1 := s.add (.lst (ns.map T.int))
  have h1 : s1.get s.len = some (.lst (ns.map T.int)) := get_add
  have c1 : compL (chkL s.len (ns.map T.int)) (gNm 2) bYes (eB fAbs (lCons (eVar 2) lNil)) [some (.frz (ns.map T.int)), none, none] (ns.map T.int) [] s1 = .ok ([] ++ ns.map fun i => T.int (ab i)) s1 :=
    compL_map (chkL_iff.mpr h1) ns [] (fun x _ => ⟨[some (.frz (ns.map T.int)), none, some (.int x)], rfl, by simp only [ev_var, ev_var1, ev_c, ev_vout, ev_bin, ev_bin1, ev_bin2, ev_un, ev_un1, ev_lnil, ev_lcons, ev_lcons1, ev_lcons2, ev_ldef, ev_ldef1, ev_lstar, ev_lstar1, ev_lstar1b, ev_lstar2, ev_tup, ev_tup1, ev_lst, ev_lst1, ev_lchk, ev_lchk1, ev_call, ev_call1, ev_g, ev_b, ev_b1, ev_tmp, ev_tmp1, ev_comp, ev_comp1, ev_if, ev_if1t, ev_if1f, ev_bt, ev_bt1, ev_bt2, ev_bv, ev_bv1, ev_bnot, ev_bnot1, ev_band, ev_band1t, ev_band1f, ev_bor, ev_bor1t, ev_bor1f, ev_byes, ev_eand, ev_eand1, ev_eand2t, ev_eand2f, ev_eor, ev_eor1, ev_eor2t, ev_eor2f, ev_enot, ev_enot1, ev_enot2, ev_ch, ev_ch1, ev_ch2, ev_ch3t, ev_ch3f, ev_ch4, ev_m, ev_m1, ev_m2, ev_m3, ev_jo, ev_jo1, ev_jo2, ev_fs, ev_jfn, ev_jfc, ev_jf1, ev_dct, ev_kvn, ev_kvc, ev_kv1, ev_kv2, ev_kv3, ev_dct1, ev_pn, ev_ps, ev_ps1, ev_sl, ev_sl1, ev_sl2, ev_sl3, ev_snil, ev_seq, ev_seqn, ev_seqr, ev_seqb, ev_seqc, ev_seqx, ev_sex, ev_sex1, ev_ret, ev_ret1, ev_retn, ev_sif, ev_sif1t, ev_sif1f, ev_brk, ev_cnt, ev_asg, ev_asg1, ev_gnm, ev_gnil, ev_gcons, ev_gcons1, ev_gtp, ev_gst, ev_gst1, ev_gsub, ev_gsub1, ev_gsub2, ev_gsub3, ev_par, ev_par1, ev_par3, ev_par31, ev_aug, ev_aug1, ev_aug2, ev_aug3, ev_for, ev_for1, ev_lcomp, ev_lcomp1, ev_wipn, ev_wipc, ev_iseq, ev_iseq1, ev_seqt, ev_seqf, ev_seqs, ev_seql, ev_seql1, ev_rg1, ev_rg11, ev_rg2, ev_rg21, ev_en, ev_en1, ev_en2, ev_outr, ev_outn, ev_outx, ev_ixi, ev_ixk, ev_ixl, ev_ixll, ev_ixld, ev_ixkk, ev_ix1, ev_ixt, ev_ixf, vv_oAdd, vv_oAddI, vv_oSub, vv_oLt, vv_oLe, vv_oGt, vv_oGe, vv_oEq, vv_oNe, vv_eqs, vv_nes, vv_eqns, vv_isn, vv_notn, vv_in_non, vv_in_bl, vv_in_int, vv_in_str, vv_in_tup, vv_in_frz, vv_in_loc, vv_neg, vv_tb, vv_ti, vv_tn, vv_tt, vv_tf, vv_mul, vv_div, vv_mod, vv_pow7, vv_pow8, vv_pow9, vv_pow18, vv_pow12, vv_pow6, vv_pow5, vv_pow4, vv_pow10, vv_pow16, vv_abs, vv_min, vv_max, vv_inti, vv_intb, vv_stri, vv_strs, vv_lent, vv_lenf, vv_lens, vv_htup, vv_hlen, vv_is_non_bool, vv_is_non_int, vv_is_non_str, vv_is_non_tuple, vv_is_bl_bool, vv_is_bl_int, vv_is_bl_str, vv_is_bl_tuple, vv_is_int_bool, vv_is_int_int, vv_is_int_str, vv_is_int_tuple, vv_is_str_bool, vv_is_str_int, vv_is_str_str, vv_is_str_tuple, vv_is_tup_bool, vv_is_tup_int, vv_is_tup_str, vv_is_tup_tuple, vv_is_frz_bool, vv_is_frz_int, vv_is_frz_str, vv_is_frz_tuple, vv_iss, vv_items_t, vv_items_f, vv_spl, vv_fmts, vv_fmti, vv_cats, vv_cast0, vv_cast1, vv_cast2, vv_cast3, vv_cast4, vv_cast5, vv_cast6, vv_cast7, vv_cast8, vv_cast9, vv_cast10, vv_cast11, vv_line0, vv_line1, vv_line2, vv_line3, vv_line4, vv_line5, vv_line6, vv_line7, vv_line8, vv_isl, vv_isl1, vv_lenl, vv_lenl1, vv_tupl, vv_tupl1, vv_items_l, vv_items_l1, vv_lst_f, vv_lst_l, vv_lst_l1, vv_app, vv_app1, vv_pop0, vv_pop01, vv_ins0, vv_ins01, vv_mull, vv_mull0, vv_mull1, vv_addl, vv_addl1, vv_slf, vv_slt, List.getElem?_cons_zero, List.getElem?_cons_succ, List.set_cons_zero, List.set_cons_succ, List.map_cons, List.map_nil, List.length_cons, List.length_nil, List.replicate_succ, List.replicate_zero, List.cons_append, List.nil_append, List.append_nil, Option.map_some, Option.map_none, Option.bind_some, Nat.reduceSub, Nat.reduceAdd, Nat.reduceMul, Nat.reduceLeDiff, Nat.zero_le, Int.reduceLT, Int.reduceLE, Int.reduceNeg, Int.reduceAdd, Int.reduceEq, Int.reduceMul, Int.reduceSub, eq_self, Bool.not_true, Bool.not_false, Bool.and_true, Bool.true_and, Bool.and_false, Bool.false_and, Bool.or_true, Bool.true_or, Bool.or_false, Bool.false_or, decide_true, decide_false, if_true, if_false, ite_true, ite_false, Bool.false_eq_true, and_true, true_and, and_false, false_and, not_true_eq_false, not_false_eq_true]; rfl⟩) (by simp [sizeLine_eq]; omega)
  simp only [List.nil_append] at c1
  let cells : List Int := ns.map ab
  have ec : (ns.map fun i => T.int (ab i)) = cells.map T.int := by simp [cells]
  rw [ec] at c1
  let s2 := s1.add (.lst (cells.map T.int))
  have h2 : s2.get s1.len = some (.lst (cells.map T.int)) := get_add
  have c2 : compL (chkL s1.len (cells.map T.int)) (gNm 2) (bV (eBin oGe (eVar 2) (eBin oPow (eC (.int 10)) (eC (.int 18))))) (eVar 2) [some (.frz (ns.map T.int)), some (.loc s1.len), none] (cells.map T.int) [] s2 = .ok ([] ++ (cells.filter fun x => decide (1000000000000000000 ≤ x)).map T.int) s2 :=
    compL_filter (chkL_iff.mpr h2) cells [] (fun x _ => ⟨[some (.frz (ns.map T.int)), some (.loc s1.len), some (.int x)], rfl, by simp only [ev_var, ev_var1, ev_c, ev_vout, ev_bin, ev_bin1, ev_bin2, ev_un, ev_un1, ev_lnil, ev_lcons, ev_lcons1, ev_lcons2, ev_ldef, ev_ldef1, ev_lstar, ev_lstar1, ev_lstar1b, ev_lstar2, ev_tup, ev_tup1, ev_lst, ev_lst1, ev_lchk, ev_lchk1, ev_call, ev_call1, ev_g, ev_b, ev_b1, ev_tmp, ev_tmp1, ev_comp, ev_comp1, ev_if, ev_if1t, ev_if1f, ev_bt, ev_bt1, ev_bt2, ev_bv, ev_bv1, ev_bnot, ev_bnot1, ev_band, ev_band1t, ev_band1f, ev_bor, ev_bor1t, ev_bor1f, ev_byes, ev_eand, ev_eand1, ev_eand2t, ev_eand2f, ev_eor, ev_eor1, ev_eor2t, ev_eor2f, ev_enot, ev_enot1, ev_enot2, ev_ch, ev_ch1, ev_ch2, ev_ch3t, ev_ch3f, ev_ch4, ev_m, ev_m1, ev_m2, ev_m3, ev_jo, ev_jo1, ev_jo2, ev_fs, ev_jfn, ev_jfc, ev_jf1, ev_dct, ev_kvn, ev_kvc, ev_kv1, ev_kv2, ev_kv3, ev_dct1, ev_pn, ev_ps, ev_ps1, ev_sl, ev_sl1, ev_sl2, ev_sl3, ev_snil, ev_seq, ev_seqn, ev_seqr, ev_seqb, ev_seqc, ev_seqx, ev_sex, ev_sex1, ev_ret, ev_ret1, ev_retn, ev_sif, ev_sif1t, ev_sif1f, ev_brk, ev_cnt, ev_asg, ev_asg1, ev_gnm, ev_gnil, ev_gcons, ev_gcons1, ev_gtp, ev_gst, ev_gst1, ev_gsub, ev_gsub1, ev_gsub2, ev_gsub3, ev_par, ev_par1, ev_par3, ev_par31, ev_aug, ev_aug1, ev_aug2, ev_aug3, ev_for, ev_for1, ev_lcomp, ev_lcomp1, ev_wipn, ev_wipc, ev_iseq, ev_iseq1, ev_seqt, ev_seqf, ev_seqs, ev_seql, ev_seql1, ev_rg1, ev_rg11, ev_rg2, ev_rg21, ev_en, ev_en1, ev_en2, ev_outr, ev_outn, ev_outx, ev_ixi, ev_ixk, ev_ixl, ev_ixll, ev_ixld, ev_ixkk, ev_ix1, ev_ixt, ev_ixf, vv_oAdd, vv_oAddI, vv_oSub, vv_oLt, vv_oLe, vv_oGt, vv_oGe, vv_oEq, vv_oNe, vv_eqs, vv_nes, vv_eqns, vv_isn, vv_notn, vv_in_non, vv_in_bl, vv_in_int, vv_in_str, vv_in_tup, vv_in_frz, vv_in_loc, vv_neg, vv_tb, vv_ti, vv_tn, vv_tt, vv_tf, vv_mul, vv_div, vv_mod, vv_pow7, vv_pow8, vv_pow9, vv_pow18, vv_pow12, vv_pow6, vv_pow5, vv_pow4, vv_pow10, vv_pow16, vv_abs, vv_min, vv_max, vv_inti, vv_intb, vv_stri, vv_strs, vv_lent, vv_lenf, vv_lens, vv_htup, vv_hlen, vv_is_non_bool, vv_is_non_int, vv_is_non_str, vv_is_non_tuple, vv_is_bl_bool, vv_is_bl_int, vv_is_bl_str, vv_is_bl_tuple, vv_is_int_bool, vv_is_int_int, vv_is_int_str, vv_is_int_tuple, vv_is_str_bool, vv_is_str_int, vv_is_str_str, vv_is_str_tuple, vv_is_tup_bool, vv_is_tup_int, vv_is_tup_str, vv_is_tup_tuple, vv_is_frz_bool, vv_is_frz_int, vv_is_frz_str, vv_is_frz_tuple, vv_iss, vv_items_t, vv_items_f, vv_spl, vv_fmts, vv_fmti, vv_cats, vv_cast0, vv_cast1, vv_cast2, vv_cast3, vv_cast4, vv_cast5, vv_cast6, vv_cast7, vv_cast8, vv_cast9, vv_cast10, vv_cast11, vv_line0, vv_line1, vv_line2, vv_line3, vv_line4, vv_line5, vv_line6, vv_line7, vv_line8, vv_isl, vv_isl1, vv_lenl, vv_lenl1, vv_tupl, vv_tupl1, vv_items_l, vv_items_l1, vv_lst_f, vv_lst_l, vv_lst_l1, vv_app, vv_app1, vv_pop0, vv_pop01, vv_ins0, vv_ins01, vv_mull, vv_mull0, vv_mull1, vv_addl, vv_addl1, vv_slf, vv_slt, List.getElem?_cons_zero, List.getElem?_cons_succ, List.set_cons_zero, List.set_cons_succ, List.map_cons, List.map_nil, List.length_cons, List.length_nil, List.replicate_succ, List.replicate_zero, List.cons_append, List.nil_append, List.append_nil, Option.map_some, Option.map_none, Option.bind_some, Nat.reduceSub, Nat.reduceAdd, Nat.reduceMul, Nat.reduceLeDiff, Nat.zero_le, Int.reduceLT, Int.reduceLE, Int.reduceNeg, Int.reduceAdd, Int.reduceEq, Int.reduceMul, Int.reduceSub, eq_self, Bool.not_true, Bool.not_false, Bool.and_true, Bool.true_and, Bool.and_false, Bool.false_and, Bool.or_true, Bool.true_or, Bool.or_false, Bool.false_or, decide_true, decide_false, if_true, if_false, ite_true, ite_false, Bool.false_eq_true, and_true, true_and, and_false, false_and, not_true_eq_false, not_false_eq_true], fun _ => by simp only [ev_var, ev_var1, ev_c, ev_vout, ev_bin, ev_bin1, ev_bin2, ev_un, ev_un1, ev_lnil, ev_lcons, ev_lcons1, ev_lcons2, ev_ldef, ev_ldef1, ev_lstar, ev_lstar1, ev_lstar1b, ev_lstar2, ev_tup, ev_tup1, ev_lst, ev_lst1, ev_lchk, ev_lchk1, ev_call, ev_call1, ev_g, ev_b, ev_b1, ev_tmp, ev_tmp1, ev_comp, ev_comp1, ev_if, ev_if1t, ev_if1f, ev_bt, ev_bt1, ev_bt2, ev_bv, ev_bv1, ev_bnot, ev_bnot1, ev_band, ev_band1t, ev_band1f, ev_bor, ev_bor1t, ev_bor1f, ev_byes, ev_eand, ev_eand1, ev_eand2t, ev_eand2f, ev_eor, ev_eor1, ev_eor2t, ev_eor2f, ev_enot, ev_enot1, ev_enot2, ev_ch, ev_ch1, ev_ch2, ev_ch3t, ev_ch3f, ev_ch4, ev_m, ev_m1, ev_m2, ev_m3, ev_jo, ev_jo1, ev_jo2, ev_fs, ev_jfn, ev_jfc, ev_jf1, ev_dct, ev_kvn, ev_kvc, ev_kv1, ev_kv2, ev_kv3, ev_dct1, ev_pn, ev_ps, ev_ps1, ev_sl, ev_sl1, ev_sl2, ev_sl3, ev_snil, ev_seq, ev_seqn, ev_seqr, ev_seqb, ev_seqc, ev_seqx, ev_sex, ev_sex1, ev_ret, ev_ret1, ev_retn, ev_sif, ev_sif1t, ev_sif1f, ev_brk, ev_cnt, ev_asg, ev_asg1, ev_gnm, ev_gnil, ev_gcons, ev_gcons1, ev_gtp, ev_gst, ev_gst1, ev_gsub, ev_gsub1, ev_gsub2, ev_gsub3, ev_par, ev_par1, ev_par3, ev_par31, ev_aug, ev_aug1, ev_aug2, ev_aug3, ev_for, ev_for1, ev_lcomp, ev_lcomp1, ev_wipn, ev_wipc, ev_iseq, ev_iseq1, ev_seqt, ev_seqf, ev_seqs, ev_seql, ev_seql1, ev_rg1, ev_rg11, ev_rg2, ev_rg21, ev_en, ev_en1, ev_en2, ev_outr, ev_outn, ev_outx, ev_ixi, ev_ixk, ev_ixl, ev_ixll, ev_ixld, ev_ixkk, ev_ix1, ev_ixt, ev_ixf, vv_oAdd, vv_oAddI, vv_oSub, vv_oLt, vv_oLe, vv_oGt, vv_oGe, vv_oEq, vv_oNe, vv_eqs, vv_nes, vv_eqns, vv_isn, vv_notn, vv_in_non, vv_in_bl, vv_in_int, vv_in_str, vv_in_tup, vv_in_frz, vv_in_loc, vv_neg, vv_tb, vv_ti, vv_tn, vv_tt, vv_tf, vv_mul, vv_div, vv_mod, vv_pow7, vv_pow8, vv_pow9, vv_pow18, vv_pow12, vv_pow6, vv_pow5, vv_pow4, vv_pow10, vv_pow16, vv_abs, vv_min, vv_max, vv_inti, vv_intb, vv_stri, vv_strs, vv_lent, vv_lenf, vv_lens, vv_htup, vv_hlen, vv_is_non_bool, vv_is_non_int, vv_is_non_str, vv_is_non_tuple, vv_is_bl_bool, vv_is_bl_int, vv_is_bl_str, vv_is_bl_tuple, vv_is_int_bool, vv_is_int_int, vv_is_int_str, vv_is_int_tuple, vv_is_str_bool, vv_is_str_int, vv_is_str_str, vv_is_str_tuple, vv_is_tup_bool, vv_is_tup_int, vv_is_tup_str, vv_is_tup_tuple, vv_is_frz_bool, vv_is_frz_int, vv_is_frz_str, vv_is_frz_tuple, vv_iss, vv_items_t, vv_items_f, vv_spl, vv_fmts, vv_fmti, vv_cats, vv_cast0, vv_cast1, vv_cast2, vv_cast3, vv_cast4, vv_cast5, vv_cast6, vv_cast7, vv_cast8, vv_cast9, vv_cast10, vv_cast11, vv_line0, vv_line1, vv_line2, vv_line3, vv_line4, vv_line5, vv_line6, vv_line7, vv_line8, vv_isl, vv_isl1, vv_lenl, vv_lenl1, vv_tupl, vv_tupl1, vv_items_l, vv_items_l1, vv_lst_f, vv_lst_l, vv_lst_l1, vv_app, vv_app1, vv_pop0, vv_pop01, vv_ins0, vv_ins01, vv_mull, vv_mull0, vv_mull1, vv_addl, vv_addl1, vv_slf, vv_slt, List.getElem?_cons_zero, List.getElem?_cons_succ, List.set_cons_zero, List.set_cons_succ, List.map_cons, List.map_nil, List.length_cons, List.length_nil, List.replicate_succ, List.replicate_zero, List.cons_append, List.nil_append, List.append_nil, Option.map_some, Option.map_none, Option.bind_some, Nat.reduceSub, Nat.reduceAdd, Nat.reduceMul, Nat.reduceLeDiff, Nat.zero_le, Int.reduceLT, Int.reduceLE, Int.reduceNeg, Int.reduceAdd, Int.reduceEq, Int.reduceMul, Int.reduceSub, eq_self, Bool.not_true, Bool.not_false, Bool.and_true, Bool.true_and, Bool.and_false, Bool.false_and, Bool.or_true, Bool.true_or, Bool.or_false, Bool.false_or, decide_true, decide_false, if_true, if_false, ite_true, ite_false, Bool.false_eq_true, and_true, true_and, and_false, false_and, not_true_eq_false, not_false_eq_true]⟩) (by simp [cells, sizeLine_eq]; omega)
  simp only [List.nil_append] at c2
  let deep : List Int := cells.filter fun x => decide (1000000000000000000 ≤ x)
  let s3 := s2.add (.lst (deep.map T.int))
  have h3 : s3.get s1.len = some (.lst (cells.map T.int)) := get_add_old h2
  have h3' : s3.get s2.len = some (.lst (deep.map T.int)) := get_add
  let s4 := s3.add (.lst [.int 53])
  have h4 : s4.get s1.len = some (.lst (cells.map T.int)) := get_add_old h3
  have h4' : s4.get s3.len = some (.lst [.int 53]) := get_add
  let s5 := s4.add (.lst [])
  have h5 : s5.get s1.len = some (.lst (cells.map T.int)) := get_add_old h4
  have h5' : s5.get s3.len = some (.lst [.int 53]) := get_add_old h4'
  have e5 : oEq (.loc s1.len) (.loc s4.len) s5 = some (.bl cells.isEmpty, s5) := eq_nil h5 get_add
  let more : List Int := if cells.isEmpty = true then [53] else []
  let s6 := s5.add (.lst (more.map T.int))
  have e6 : mulL (if cells.isEmpty = true then 1 else 0) s5 (some (.lst [.int 53])) = some (.loc s5.len, s6) := by
    cases e : cells.isEmpty <;> simp only [s6, more, e] <;> rfl
  have h6 : s6.get s1.len = some (.lst (cells.map T.int)) := get_add_old h5
  have h6' : s6.get s5.len = some (.lst (more.map T.int)) := get_add
  have hz : (cells.map T.int).length + (more.map T.int).length ≤ sizeLine := by
    have : more.length ≤ 1 := by simp only [more]; split <;> simp
    simp only [List.length_map, cells, sizeLine_eq] at *; omega
  let all : List Int := cells ++ more
  let s7 := s6.add (.lst (all.map T.int))
  have e7 : addL s6 (some (.lst (cells.map T.int))) (some (.lst (more.map T.int))) = some (.loc s6.len, s7) := by
    rw [vv_addl1 hz]
    simp [s7, all]
  let D : List (Key × T) := [(.inr "deep", .loc s2.len), (.inr "all", .loc s6.len), (.inr "times", .int 0)]
  let s8 := s7.add (.dct D)
  have eD : dMerge [] D = D := rfl
  have fin : (PB_opened (run p k) [some (.frz (ns.map T.int)), none, none] s).out = .ok (.loc s7.len) s8 := by
    unfold PB_opened
    have q1 : s.add (.lst ((ns.map T.int))) = s1 := rfl
    have q2 : s1.add (.lst (cells.map T.int)) = s2 := rfl
    have q3 : s2.add (.lst ((cells.filter fun x => decide (1000000000000000000 ≤ x)).map T.int)) = s3 := rfl
    have q4 : s3.add (.lst [.int 53]) = s4 := rfl
    have q5 : s4.add (.lst []) = s5 := rfl
    have q8 : s7.add (.dct (dMerge [] [(.inr "deep", .loc s2.len), (.inr "all", .loc s6.len), (.inr "times", .int 0)])) = s8 := rfl
    simp only [e64, cut_to, tk, q1, h1, c1, q2, h2, c2, q3, q4, q5, e5, h5', e6, h6, h6', e7, q8, ev_var, ev_var1, ev_c, ev_vout, ev_bin, ev_bin1, ev_bin2, ev_un, ev_un1, ev_lnil, ev_lcons, ev_lcons1, ev_lcons2, ev_ldef, ev_ldef1, ev_lstar, ev_lstar1, ev_lstar1b, ev_lstar2, ev_tup, ev_tup1, ev_lst, ev_lst1, ev_lchk, ev_lchk1, ev_call, ev_call1, ev_g, ev_b, ev_b1, ev_tmp, ev_tmp1, ev_comp, ev_comp1, ev_if, ev_if1t, ev_if1f, ev_bt, ev_bt1, ev_bt2, ev_bv, ev_bv1, ev_bnot, ev_bnot1, ev_band, ev_band1t, ev_band1f, ev_bor, ev_bor1t, ev_bor1f, ev_byes, ev_eand, ev_eand1, ev_eand2t, ev_eand2f, ev_eor, ev_eor1, ev_eor2t, ev_eor2f, ev_enot, ev_enot1, ev_enot2, ev_ch, ev_ch1, ev_ch2, ev_ch3t, ev_ch3f, ev_ch4, ev_m, ev_m1, ev_m2, ev_m3, ev_jo, ev_jo1, ev_jo2, ev_fs, ev_jfn, ev_jfc, ev_jf1, ev_dct, ev_kvn, ev_kvc, ev_kv1, ev_kv2, ev_kv3, ev_dct1, ev_pn, ev_ps, ev_ps1, ev_sl, ev_sl1, ev_sl2, ev_sl3, ev_snil, ev_seq, ev_seqn, ev_seqr, ev_seqb, ev_seqc, ev_seqx, ev_sex, ev_sex1, ev_ret, ev_ret1, ev_retn, ev_sif, ev_sif1t, ev_sif1f, ev_brk, ev_cnt, ev_asg, ev_asg1, ev_gnm, ev_gnil, ev_gcons, ev_gcons1, ev_gtp, ev_gst, ev_gst1, ev_gsub, ev_gsub1, ev_gsub2, ev_gsub3, ev_par, ev_par1, ev_par3, ev_par31, ev_aug, ev_aug1, ev_aug2, ev_aug3, ev_for, ev_for1, ev_lcomp, ev_lcomp1, ev_wipn, ev_wipc, ev_iseq, ev_iseq1, ev_seqt, ev_seqf, ev_seqs, ev_seql, ev_seql1, ev_rg1, ev_rg11, ev_rg2, ev_rg21, ev_en, ev_en1, ev_en2, ev_outr, ev_outn, ev_outx, ev_ixi, ev_ixk, ev_ixl, ev_ixll, ev_ixld, ev_ixkk, ev_ix1, ev_ixt, ev_ixf, vv_oAdd, vv_oAddI, vv_oSub, vv_oLt, vv_oLe, vv_oGt, vv_oGe, vv_oEq, vv_oNe, vv_eqs, vv_nes, vv_eqns, vv_isn, vv_notn, vv_in_non, vv_in_bl, vv_in_int, vv_in_str, vv_in_tup, vv_in_frz, vv_in_loc, vv_neg, vv_tb, vv_ti, vv_tn, vv_tt, vv_tf, vv_mul, vv_div, vv_mod, vv_pow7, vv_pow8, vv_pow9, vv_pow18, vv_pow12, vv_pow6, vv_pow5, vv_pow4, vv_pow10, vv_pow16, vv_abs, vv_min, vv_max, vv_inti, vv_intb, vv_stri, vv_strs, vv_lent, vv_lenf, vv_lens, vv_htup, vv_hlen, vv_is_non_bool, vv_is_non_int, vv_is_non_str, vv_is_non_tuple, vv_is_bl_bool, vv_is_bl_int, vv_is_bl_str, vv_is_bl_tuple, vv_is_int_bool, vv_is_int_int, vv_is_int_str, vv_is_int_tuple, vv_is_str_bool, vv_is_str_int, vv_is_str_str, vv_is_str_tuple, vv_is_tup_bool, vv_is_tup_int, vv_is_tup_str, vv_is_tup_tuple, vv_is_frz_bool, vv_is_frz_int, vv_is_frz_str, vv_is_frz_tuple, vv_iss, vv_items_t, vv_items_f, vv_spl, vv_fmts, vv_fmti, vv_cats, vv_cast0, vv_cast1, vv_cast2, vv_cast3, vv_cast4, vv_cast5, vv_cast6, vv_cast7, vv_cast8, vv_cast9, vv_cast10, vv_cast11, vv_line0, vv_line1, vv_line2, vv_line3, vv_line4, vv_line5, vv_line6, vv_line7, vv_line8, vv_isl, vv_isl1, vv_lenl, vv_lenl1, vv_tupl, vv_tupl1, vv_items_l, vv_items_l1, vv_lst_f, vv_lst_l, vv_lst_l1, vv_app, vv_app1, vv_pop0, vv_pop01, vv_ins0, vv_ins01, vv_mull, vv_mull0, vv_mull1, vv_addl, vv_addl1, vv_slf, vv_slt, List.getElem?_cons_zero, List.getElem?_cons_succ, List.set_cons_zero, List.set_cons_succ, List.map_cons, List.map_nil, List.length_cons, List.length_nil, List.replicate_succ, List.replicate_zero, List.cons_append, List.nil_append, List.append_nil, Option.map_some, Option.map_none, Option.bind_some, Nat.reduceSub, Nat.reduceAdd, Nat.reduceMul, Nat.reduceLeDiff, Nat.zero_le, Int.reduceLT, Int.reduceLE, Int.reduceNeg, Int.reduceAdd, Int.reduceEq, Int.reduceMul, Int.reduceSub, eq_self, Bool.not_true, Bool.not_false, Bool.and_true, Bool.true_and, Bool.and_false, Bool.false_and, Bool.or_true, Bool.true_or, Bool.or_false, Bool.false_or, decide_true, decide_false, if_true, if_false, ite_true, ite_false, Bool.false_eq_true, and_true, true_and, and_false, false_and, not_true_eq_false, not_false_eq_true]
  have hl8 : s8.len = s7.len + 1 := len_add
  have l1 : s1.len = s.len + 1 := len_add
  have l2 : s2.len = s1.len + 1 := len_add
  have l3 : s3.len = s2.len + 1 := len_add
  have l4 : s4.len = s3.len + 1 := len_add
  have l5 : s5.len = s4.len + 1 := len_add
  have l6 : s6.len = s5.len + 1 := len_add
  have l7 : s7.len = s6.len + 1 := len_add
  have lt26 : s2.len < s6.len := by omega
  have P8 : Pot s7.len 0 s8 := by
    refine ⟨s2.len, s6.len, deep, all, 0, get_add, ?_, ?_, lt26, by omega, ?_, ?_, ?_, by omega, by omega⟩
    · exact get_add_old (get_add_old (get_add_old (get_add_old (get_add_old h3'))))
    · exact get_add_old get_add
    · cases e : cells.isEmpty with
      | true => simp [all, more, e]
      | false =>
        have : cells ≠ [] := by intro h; rw [h] at e; cases e
        have : 0 < cells.length := List.length_pos_iff.mpr this
        simp only [all, List.length_append]; omega
    · have : more.length ≤ 1 := by simp only [more]; split <;> simp
      simp only [all, List.length_append, cells, List.length_map]; omega
    · exact Nat.le_trans (List.length_filter_le _ _) (by simp only [cells, List.length_map]; omega)
  refine ⟨s7.len, s8, (run_eq hp rfl).trans ((congrArg _ fin).trans ?_), P8, by omega, rfl, by omega⟩
  have kp : s8.kp = s.kp := rfl
  simp only [gcR, kp, if_true]
  rw [cut_self]
  show s8.len ≤ max s.len (s7.len + 1)
  omega
end
end Fx

set_option maxRecDepth 100000
set_option maxHeartbeats 4000000
namespace Fx
open PySem L2 PyProof.Rows
section
variable {d n k : Nat} {s s1 : Sto} {p : String → Option FnD}
theorem Frm.kp' (f : Frm d s s1) : s1.kp = s.kp := f.kp
/-- _law_one(pot, [..]), the list gone behind it -/
theorem one_lit {us : List T} (hp : p "_law_draw" = some ⟨2, 6, PB_draw⟩) (hp1 : p "_law_one" = some ⟨2, 2, PB_one⟩) (P : Pot d n s1) (f : Frm d s s1) (hn : n ≤ 1000000000000000000000000000000) (h1 : 0 < us.length) (h2 : us.length ≤ 1000) (hh : ∀ t ∈ us, t.hi = 0) :
    ∃ t s', gcR s.len s.kp (run p (k + 2) "_law_one" [.loc d, .loc s1.len] (s1.add (.lst us))) = .ok t s' ∧ t ∈ us ∧ Pot d (n + 1) s' ∧ Frm d s s' := by
  obtain ⟨t, s2, e, ht, P2, f2⟩ := one_spec (k := k) hp hp1 (P.add (o := .lst us)) hn (get_add (o := .lst us)) P.lt h1 h2 (fun t ht => by rw [hh t ht]; exact Nat.zero_le _)
  have fr : Frn d s s2 := (f.frn.trans Frn.add).trans f2.frn
  obtain ⟨s3, e3, f3, P3⟩ := gc_frn (t := t) fr P2 (by rw [hh t ht]; exact Nat.zero_le _) (by rw [← f.len]; exact P.lt)
  exact ⟨t, s3, by rw [e]; exact e3, ht, P3, f3⟩
/-- .. of ints -/
theorem one_ints {us : List Int} (hp : p "_law_draw" = some ⟨2, 6, PB_draw⟩) (hp1 : p "_law_one" = some ⟨2, 2, PB_one⟩) (P : Pot d n s1) (f : Frm d s s1) (hn : n ≤ 1000000000000000000000000000000) (h1 : 0 < us.length) (h2 : us.length ≤ 1000) :
    ∃ (v : Int) (s' : Sto), gcR s.len s.kp (run p (k + 2) "_law_one" [.loc d, .loc s1.len] (s1.add (.lst (us.map T.int)))) = .ok (.int v) s' ∧ v ∈ us ∧ Pot d (n + 1) s' ∧ Frm d s s' := by
  obtain ⟨t, s', e, ht, q⟩ := one_lit (k := k) (us := us.map T.int) hp hp1 P f hn (by simpa using h1) (by simpa using h2) (fun t ht => by obtain ⟨i, _, rfl⟩ := List.mem_map.mp ht; rfl)
  obtain ⟨v, hv, rfl⟩ := List.mem_map.mp ht
  exact ⟨v, s', e, hv, q⟩
end
end Fx

set_option maxRecDepth 100000
set_option maxHeartbeats 4000000
/-! Fx: numbers as texts, joined and split. -/
namespace Fx
open PySem L2 PyProof.Rows
abbrev num (i : Int) : Str := Str.ofString (toString i)
theorem tl_numN (n : Nat) : TL.tl (num (n : Int)) = TL.numL n := TL.tl_num n
theorem num_digits {i : Int} (h : 0 ≤ i) : ∀ c ∈ TL.tl (num i), 48 ≤ c ∧ c ≤ 57 := by
  obtain ⟨n, rfl⟩ := Int.eq_ofNat_of_zero_le h
  rw [tl_numN]
  exact TL.numL_digits n
theorem num_ne {i : Int} (h : 0 ≤ i) : TL.tl (num i) ≠ [] := by
  obtain ⟨n, rfl⟩ := Int.eq_ofNat_of_zero_le h
  rw [tl_numN]
  exact TL.numL_ne n
theorem num_len {i : Int} (h : 0 ≤ i) (h2 : i < 10000000000) : 1 ≤ (num i).length ∧ (num i).length ≤ 10 := by
  have h3 := num_ne h
  obtain ⟨n, rfl⟩ := Int.eq_ofNat_of_zero_le h
  rw [TL.len_tl]
  refine ⟨List.length_pos_iff.mpr h3, ?_⟩
  rw [tl_numN]
  exact TL.numL_len (by decide) (by
    have : (10 : Nat) ^ 10 = 10000000000 := by decide
    omega)
theorem num_int {i : Int} (h : 0 ≤ i) (h2 : i < 10000000000) : PySem.intText? (num i) = some i := by
  have h3 := (num_len h h2).2
  obtain ⟨n, rfl⟩ := Int.eq_ofNat_of_zero_le h
  rw [TL.len_tl, tl_numN] at h3
  exact TL.int_num (by omega)
theorem numL_head {n : Nat} (h : 0 < n) : ∃ c r, TL.numL n = c :: r ∧ c ≠ 48 := by
  induction n using Nat.strongRecOn with
  | _ n ih =>
    by_cases h10 : n < 10
    · rw [TL.numL_lt h10]
      exact ⟨_, _, rfl, by omega⟩
    · rw [TL.numL_step (by omega)]
      obtain ⟨c, r, e, hc⟩ := ih (n / 10) (by omega) (by omega)
      rw [e]
      exact ⟨c, _, rfl, hc⟩
/-- a number begins with 0 only when it is 0 -/
theorem num_head {i : Int} (h : 0 ≤ i) : (∃ r, TL.tl (num i) = 48 :: r ∧ i = 0) ∨ ∃ c r, TL.tl (num i) = c :: r ∧ c ≠ 48 := by
  obtain ⟨n, rfl⟩ := Int.eq_ofNat_of_zero_le h
  by_cases h0 : n = 0
  · subst h0
    refine .inl ⟨[], ?_, rfl⟩
    rw [tl_numN, TL.numL_lt (by decide)]
  · rw [tl_numN]
    exact .inr (numL_head (by omega))
theorem strOk_of {x : Str} (h : ∀ c ∈ TL.tl x, c < 1114112) : PyData.strOk x = true := by
  unfold PyData.strOk
  rw [← Array.all_toList, List.all_eq_true]
  intro c hc
  exact decide_eq_true (h c hc)
theorem num_ok {i : Int} (h : 0 ≤ i) : PyData.strOk (num i) = true := strOk_of fun c hc => by have := num_digits h c hc; omega
theorem join2 {y x z : Str} : Txt.join y [x, z] = x ++ y ++ z := by rw [TL.join_eq]; rfl
theorem split2 {y x z : Str} {c : Nat} (ey : TL.tl y = [c]) (hc : c < 256) (h1 : c ∉ TL.tl x) (h2 : c ∉ TL.tl z) : Txt.split (x ++ y ++ z) y = [x, z] := by
  rw [← join2]
  refine TL.split_join ey ?_ (by simp) (by intro p hp; simp at hp; rcases hp with rfl | rfl <;> assumption)
  rw [← Array.all_toList]
  show (TL.tl y).all _ = true
  rw [ey]
  simp [hc]
theorem split1 {y x : Str} {c : Nat} (ey : TL.tl y = [c]) (hc : c < 256) (h1 : c ∉ TL.tl x) : Txt.split x y = [x] := by
  have e : Txt.join y [x] = x := by rw [TL.join_eq]; rfl
  have z := TL.split_join (parts := [x]) ey (by
    rw [← Array.all_toList]
    show (TL.tl y).all _ = true
    rw [ey]
    simp [hc]) (by simp) (by intro p hp; simp at hp; subst hp; exact h1)
  rw [e] at z
  exact z
theorem splitN {y : Str} {c : Nat} (ey : TL.tl y = [c]) (hc : c < 256) {ps : List Str} (hne : ps ≠ []) (h : ∀ p ∈ ps, c ∉ TL.tl p) : Txt.split (Txt.join y ps) y = ps := by
  refine TL.split_join ey ?_ hne h
  rw [← Array.all_toList]
  show (TL.tl y).all _ = true
  rw [ey]
  simp [hc]
theorem tl_app (x y : Str) : TL.tl (x ++ y) = TL.tl x ++ TL.tl y := TL.tl_append x y
theorem len_app (x y : Str) : (x ++ y).length = x.length + y.length := by rw [TL.len_tl, TL.len_tl, TL.len_tl, tl_app, List.length_append]
theorem bls_map {α : Type} {f : α → Bool} : ∀ l : List α, bls? (l.map fun a => T.bl (f a)) = some (l.map f)
  | [] => rfl
  | a :: r => by simp [bls?, bls_map r]
theorem strs_map {α : Type} {f : α → Str} : ∀ l : List α, strs? (l.map fun a => T.str (f a)) = some (l.map f)
  | [] => rfl
  | a :: r => by simp [strs?, strs_map r]
theorem join_len (y : Str) (ps : List Str) : (Txt.join y ps).length ≤ (ps.map (·.length)).sum + ps.length * y.length := by
  rw [TL.join_eq]
  exact StrLaws.join_length_le y ps
theorem sum_le {α : Type} {f : α → Nat} {B : Nat} : ∀ {l : List α}, (∀ a ∈ l, f a ≤ B) → (l.map f).sum ≤ l.length * B
  | [], _ => by simp
  | a :: r, h => by
    have h1 := h a List.mem_cons_self
    have h2 := sum_le fun b hb => h b (List.mem_cons_of_mem _ hb)
    simp only [List.map_cons, List.sum_cons, List.length_cons, Nat.succ_mul]
    omega
end Fx

set_option maxRecDepth 100000
set_option maxHeartbeats 4000000
namespace K71
open PySem PySem.Spec PyProof.Rows L2 Fx

def top (i : Nat) : Stmt := PySem.Challenge.pw_lampstays_k71_texts_written_and_parsed.main.body.getD i (.Pass ⟨0, 0, 0, 0⟩)
theorem bt_abs : bootBuiltins "abs" = some (.builtin "abs") := by decide +kernel
theorem bt_all : bootBuiltins "all" = some (.builtin "all") := by decide +kernel
theorem bt_bool : bootBuiltins "bool" = some (.type "bool") := by decide +kernel
theorem bt_enumerate : bootBuiltins "enumerate" = some (.type "enumerate") := by decide +kernel
theorem bt_int : bootBuiltins "int" = some (.type "int") := by decide +kernel
theorem bt_isinstance : bootBuiltins "isinstance" = some (.builtin "isinstance") := by decide +kernel
theorem bt_len : bootBuiltins "len" = some (.builtin "len") := by decide +kernel
theorem bt_min : bootBuiltins "min" = some (.builtin "min") := by decide +kernel
theorem bt_range : bootBuiltins "range" = some (.type "range") := by decide +kernel
theorem bt_repr : bootBuiltins "repr" = some (.builtin "repr") := by decide +kernel
theorem bt_str : bootBuiltins "str" = some (.type "str") := by decide +kernel
theorem bt_tuple : bootBuiltins "tuple" = some (.type "tuple") := by decide +kernel
structure Gs (K : PySem.W.Frag) (mg : Str → Option Value) : Prop where
  s_DIGITS : ∃ t, mg "DIGITS" = some (.str "0123456789" t)
  s_HOLD : ∃ t, mg "HOLD" = some (.str "hold" t)
  i_LIMIT : ∃ t, mg "LIMIT" = some (.int 2000000000 t)
  i_LONGEST : ∃ t, mg "LONGEST" = some (.int 20 t)
  i_MAX_LAMPS : ∃ t, mg "MAX_LAMPS" = some (.int 6 t)
  i_MAX_MINUTE : ∃ t, mg "MAX_MINUTE" = some (.int 1000000000 t)
  i_MAX_RUNS : ∃ t, mg "MAX_RUNS" = some (.int 360 t)
  i_MAX_STRETCHES : ∃ t, mg "MAX_STRETCHES" = some (.int 60 t)
  s_NONE : ∃ t, mg "NONE" = some (.str "none" t)
  s_PULSE : ∃ t, mg "PULSE" = some (.str "pulse" t)
  f_abs : mg "abs" = none
  f_all : mg "all" = none
  f_bool : mg "bool" = none
  f_enumerate : mg "enumerate" = none
  f_int : mg "int" = none
  f_isinstance : mg "isinstance" = none
  f_len : mg "len" = none
  f_min : mg "min" = none
  f_range : mg "range" = none
  f_repr : mg "repr" = none
  f_str : mg "str" = none
  f_tuple : mg "tuple" = none
  d_is_integer : mg (Str.ofString "is_integer") = some (.ref (He.ga K "is_integer"))
  d_is_minute : mg (Str.ofString "is_minute") = some (.ref (He.ga K "is_minute"))
  d_is_lamp : mg (Str.ofString "is_lamp") = some (.ref (He.ga K "is_lamp"))
  d_end_of : mg (Str.ofString "end_of") = some (.ref (He.ga K "end_of"))
  d_is_run : mg (Str.ofString "is_run") = some (.ref (He.ga K "is_run"))
  d_is_stretch : mg (Str.ofString "is_stretch") = some (.ref (He.ga K "is_stretch"))
  d_read_integer : mg (Str.ofString "read_integer") = some (.ref (He.ga K "read_integer"))
  d_read_pair : mg (Str.ofString "read_pair") = some (.ref (He.ga K "read_pair"))
  d_listed : mg (Str.ofString "listed") = some (.ref (He.ga K "listed"))
  d_lamps_text : mg (Str.ofString "lamps_text") = some (.ref (He.ga K "lamps_text"))
  d_log_text : mg (Str.ofString "log_text") = some (.ref (He.ga K "log_text"))
  d_run_text : mg (Str.ofString "run_text") = some (.ref (He.ga K "run_text"))
  d_motions_text : mg (Str.ofString "motions_text") = some (.ref (He.ga K "motions_text"))
  d_words_of : mg (Str.ofString "words_of") = some (.ref (He.ga K "words_of"))
  d_read_lamp : mg (Str.ofString "read_lamp") = some (.ref (He.ga K "read_lamp"))
  d_parse_lamps : mg (Str.ofString "parse_lamps") = some (.ref (He.ga K "parse_lamps"))
  d_parse_log : mg (Str.ofString "parse_log") = some (.ref (He.ga K "parse_log"))
  d_read_run : mg (Str.ofString "read_run") = some (.ref (He.ga K "read_run"))
  d_parse_motions : mg (Str.ofString "parse_motions") = some (.ref (He.ga K "parse_motions"))
  d__law_opened : mg (Str.ofString "_law_opened") = some (.ref (He.ga K "_law_opened"))
  d__law_draw : mg (Str.ofString "_law_draw") = some (.ref (He.ga K "_law_draw"))
  d__law_one : mg (Str.ofString "_law_one") = some (.ref (He.ga K "_law_one"))
  d__law_lamp : mg (Str.ofString "_law_lamp") = some (.ref (He.ga K "_law_lamp"))
  d__law_far_runs : mg (Str.ofString "_law_far_runs") = some (.ref (He.ga K "_law_far_runs"))
  d__law_log : mg (Str.ofString "_law_log") = some (.ref (He.ga K "_law_log"))
  d__law_lamps_text : mg (Str.ofString "_law_lamps_text") = some (.ref (He.ga K "_law_lamps_text"))
  d__law_log_text : mg (Str.ofString "_law_log_text") = some (.ref (He.ga K "_law_log_text"))
  d__law_runs_text : mg (Str.ofString "_law_runs_text") = some (.ref (He.ga K "_law_runs_text"))
  d_law : mg (Str.ofString "law") = some (.ref (He.ga K "law"))
structure Gc (P : Program) (w : World) (K : PySem.W.Frag) (mg : Str → Option Value) (base : Heap) (k : Nat) (C : CallT) : Prop where
  c_is_integer : Cal P w K mg base k C "is_integer" (He.ga K "is_integer") []
  c_is_minute : Cal P w K mg base k C "is_minute" (He.ga K "is_minute") []
  c_is_lamp : Cal P w K mg base k C "is_lamp" (He.ga K "is_lamp") []
  c_end_of : Cal P w K mg base k C "end_of" (He.ga K "end_of") []
  c_is_run : Cal P w K mg base k C "is_run" (He.ga K "is_run") []
  c_is_stretch : Cal P w K mg base k C "is_stretch" (He.ga K "is_stretch") []
  c_read_integer : Cal P w K mg base k C "read_integer" (He.ga K "read_integer") []
  c_read_pair : Cal P w K mg base k C "read_pair" (He.ga K "read_pair") []
  c_listed : Cal P w K mg base k C "listed" (He.ga K "listed") []
  c_lamps_text : Cal P w K mg base k C "lamps_text" (He.ga K "lamps_text") []
  c_log_text : Cal P w K mg base k C "log_text" (He.ga K "log_text") []
  c_run_text : Cal P w K mg base k C "run_text" (He.ga K "run_text") []
  c_motions_text : Cal P w K mg base k C "motions_text" (He.ga K "motions_text") []
  c_words_of : Cal P w K mg base k C "words_of" (He.ga K "words_of") []
  c_read_lamp : Cal P w K mg base k C "read_lamp" (He.ga K "read_lamp") []
  c_parse_lamps : Cal P w K mg base k C "parse_lamps" (He.ga K "parse_lamps") []
  c_parse_log : Cal P w K mg base k C "parse_log" (He.ga K "parse_log") []
  c_read_run : Cal P w K mg base k C "read_run" (He.ga K "read_run") []
  c_parse_motions : Cal P w K mg base k C "parse_motions" (He.ga K "parse_motions") []
  c__law_opened : Cal P w K mg base k C "_law_opened" (He.ga K "_law_opened") []
  c__law_draw : Cal P w K mg base k C "_law_draw" (He.ga K "_law_draw") []
  c__law_one : Cal P w K mg base k C "_law_one" (He.ga K "_law_one") []
  c__law_lamp : Cal P w K mg base k C "_law_lamp" (He.ga K "_law_lamp") []
  c__law_far_runs : Cal P w K mg base k C "_law_far_runs" (He.ga K "_law_far_runs") []
  c__law_log : Cal P w K mg base k C "_law_log" (He.ga K "_law_log") []
  c__law_lamps_text : Cal P w K mg base k C "_law_lamps_text" (He.ga K "_law_lamps_text") []
  c__law_log_text : Cal P w K mg base k C "_law_log_text" (He.ga K "_law_log_text") []
  c__law_runs_text : Cal P w K mg base k C "_law_runs_text" (He.ga K "_law_runs_text") []
  c_law : Cal P w K mg base k C "law" (He.ga K "law") []

/-! is_integer -/
abbrev st_is_integer : Stmt := top 11
abbrev sc_is_integer : Scope := defScope st_is_integer
abbrev N_is_integer : List Str := ["value", "low", "high"]
noncomputable def b_is_integer (C : CallT) : Sv := (sRet (eAnd (eB fIsI (lCons (eVar 0) (lCons (eC (.ty "int")) lNil))) (eAnd (eNot (eB fIsI (lCons (eVar 0) (lCons (eC (.ty "bool")) lNil)))) (eChain oLe oLe (eVar 1) (eVar 0) (eVar 2)))))

/-! is_minute -/
abbrev st_is_minute : Stmt := top 12
abbrev sc_is_minute : Scope := defScope st_is_minute
abbrev N_is_minute : List Str := ["value"]
noncomputable def b_is_minute (C : CallT) : Sv := (sRet (eCall C "is_integer" (lDef (lCons (eVar 0) (lCons (eC (.int 0)) (lCons (eC (.int 1000000000)) lNil))) [])))

/-! is_lamp -/
abbrev st_is_lamp : Stmt := top 13
abbrev sc_is_lamp : Scope := defScope st_is_lamp
abbrev N_is_lamp : List Str := ["value"]
noncomputable def b_is_lamp (C : CallT) : Sv := (sSeq (sIf (bOr (bNot (bT (eB fIsI (lCons (eVar 0) (lCons (eC (.ty "tuple")) lNil))))) (bOr (bV (eBin oNe (eB fLen (lCons (eVar 0) lNil)) (eC (.int 2)))) (bNot (bT (eB fIsI (lCons (eBin oIx (eVar 0) (eC (.int 0))) (lCons (eC (.ty "str")) lNil))))))) (sRet (eC (.bl false))) sNil)
  (sRet (eAnd (eBin oIn (eBin oIx (eVar 0) (eC (.int 0))) (eTup (lCons (eC (.str "hold")) (lCons (eC (.str "pulse")) lNil)))) (eCall C "is_integer" (lDef (lCons (eBin oIx (eVar 0) (eC (.int 1))) (lCons (eC (.int 1)) (lCons (eC (.int 1000000000)) lNil))) [])))))

/-! end_of -/
abbrev st_end_of : Stmt := top 14
abbrev sc_end_of : Scope := defScope st_end_of
abbrev N_end_of : List Str := ["run", "first", "step", "count"]
noncomputable def b_end_of (C : CallT) : Sv := (sSeq (sAsg (eVar 0) (gTp 3 (gsCons (gNm 1) (gsCons (gNm 2) (gsCons (gNm 3) gsNil)))))
  (sRet (eBin oAdd (eVar 1) (eBin oMul (eVar 2) (eBin oSub (eVar 3) (eC (.int 1)))))))

/-! is_run -/
abbrev st_is_run : Stmt := top 15
abbrev sc_is_run : Scope := defScope st_is_run
abbrev N_is_run : List Str := ["value", "first", "step", "count"]
noncomputable def b_is_run (C : CallT) : Sv := (sSeq (sIf (bOr (bNot (bT (eB fIsI (lCons (eVar 0) (lCons (eC (.ty "tuple")) lNil))))) (bOr (bV (eBin oNe (eB fLen (lCons (eVar 0) lNil)) (eC (.int 3)))) (bNot (bT (eCall C "is_minute" (lDef (lCons (eBin oIx (eVar 0) (eC (.int 0))) lNil) [])))))) (sRet (eC (.bl false))) sNil)
  (sSeq (sAsg (eVar 0) (gTp 3 (gsCons (gNm 1) (gsCons (gNm 2) (gsCons (gNm 3) gsNil)))))
  (sSeq (sIf (bOr (bNot (bT (eCall C "is_integer" (lDef (lCons (eVar 2) (lCons (eC (.int 1)) (lCons (eC (.int 1000000000)) lNil))) [])))) (bNot (bT (eCall C "is_integer" (lDef (lCons (eVar 3) (lCons (eC (.int 1)) (lCons (eBin oAdd (eC (.int 1000000000)) (eC (.int 1))) lNil))) []))))) (sRet (eC (.bl false))) sNil)
  (sRet (eAnd (eBin oLe (eCall C "end_of" (lDef (lCons (eVar 0) lNil) [])) (eC (.int 1000000000))) (eOr (eBin oGt (eVar 3) (eC (.int 1))) (eBin oEq (eVar 2) (eC (.int 1)))))))))

/-! is_stretch -/
abbrev st_is_stretch : Stmt := top 16
abbrev sc_is_stretch : Scope := defScope st_is_stretch
abbrev N_is_stretch : List Str := ["value"]
noncomputable def b_is_stretch (C : CallT) : Sv := (sSeq (sIf (bOr (bNot (bT (eB fIsI (lCons (eVar 0) (lCons (eC (.ty "tuple")) lNil))))) (bOr (bV (eBin oNe (eB fLen (lCons (eVar 0) lNil)) (eC (.int 2)))) (bNot (bT (eCall C "is_integer" (lDef (lCons (eBin oIx (eVar 0) (eC (.int 0))) (lCons (eC (.int 0)) (lCons (eC (.int 2000000000)) lNil))) [])))))) (sRet (eC (.bl false))) sNil)
  (sRet (eCall C "is_integer" (lDef (lCons (eBin oIx (eVar 0) (eC (.int 1))) (lCons (eBin oAdd (eBin oIx (eVar 0) (eC (.int 0))) (eC (.int 1))) (lCons (eC (.int 2000000000)) lNil))) []))))

/-! read_integer -/
abbrev st_read_integer : Stmt := top 21
abbrev sc_read_integer : Scope := defScope st_read_integer
abbrev N_read_integer : List Str := ["word", "sign"]
noncomputable def b_read_integer (C : CallT) : Sv := (sSeq (sIf (bOr (bNot (bV (eChain oLe oLe (eC (.int 1)) (eB fLen (lCons (eVar 0) lNil)) (eC (.int 20))))) (bNot (bT (eTmp hAll (lComp (iSeq (eVar 0)) (gNm 1) bYes (eBin oIn (eVar 1) (eC (.str "0123456789"))) [1]))))) (sRet (eC .non)) sNil)
  (sRet (eIf (bAnd (bV (eBin oEq (eBin oIx (eVar 0) (eC (.int 0))) (eC (.str "0")))) (bV (eBin oNe (eVar 0) (eC (.str "0"))))) (eC .non) (eB fInt (lCons (eVar 0) lNil)))))

/-! read_pair -/
abbrev st_read_pair : Stmt := top 22
abbrev sc_read_pair : Scope := defScope st_read_pair
abbrev N_read_pair : List Str := ["word", "sign", "parts", "part"]
noncomputable def b_read_pair (C : CallT) : Sv := (sSeq (sAsg (eComp (lComp (iSeq (eM "str" mSplit (eVar 0) (lCons (eVar 1) lNil))) (gNm 3) bYes (eCall C "read_integer" (lDef (lCons (eVar 3) lNil) [])) [3])) (gNm 2))
  (sRet (eIf (bAnd (bV (eBin oEq (eB fLen (lCons (eVar 2) lNil)) (eC (.int 2)))) (bV (eBin oNotIn (eC .non) (eVar 2)))) (eB fTup (lCons (eVar 2) lNil)) (eC .non))))

/-! listed -/
abbrev st_listed : Stmt := top 23
abbrev sc_listed : Scope := defScope st_listed
abbrev N_listed : List Str := ["words"]
noncomputable def b_listed (C : CallT) : Sv := (sRet (eOr (eM "str" mJoin (eC (.str " ")) (lCons (eVar 0) lNil)) (eC (.str "none"))))

/-! lamps_text -/
abbrev st_lamps_text : Stmt := top 24
abbrev sc_lamps_text : Scope := defScope st_lamps_text
abbrev N_lamps_text : List Str := ["lamps", "kind", "stay"]
noncomputable def b_lamps_text (C : CallT) : Sv := (sRet (eG (eCall C "listed" (lDef (lCons (eComp (lComp (iSeq (eVar 0)) (gTp 2 (gsCons (gNm 1) (gsCons (gNm 2) gsNil))) bYes (eFs [(eUn fmtT (eVar 1)), (eC (.str ":")), (eUn fmtT (eVar 2))]) [1, 2])) lNil) []))))

/-! log_text -/
abbrev st_log_text : Stmt := top 25
abbrev sc_log_text : Scope := defScope st_log_text
abbrev N_log_text : List Str := ["log", "on", "off"]
noncomputable def b_log_text (C : CallT) : Sv := (sRet (eG (eCall C "listed" (lDef (lCons (eComp (lComp (iSeq (eVar 0)) (gTp 2 (gsCons (gNm 1) (gsCons (gNm 2) gsNil))) bYes (eFs [(eUn fmtT (eVar 1)), (eC (.str "-")), (eUn fmtT (eVar 2))]) [1, 2])) lNil) []))))

/-! run_text -/
abbrev st_run_text : Stmt := top 26
abbrev sc_run_text : Scope := defScope st_run_text
abbrev N_run_text : List Str := ["run", "first", "step", "count"]
noncomputable def b_run_text (C : CallT) : Sv := (sSeq (sAsg (eVar 0) (gTp 3 (gsCons (gNm 1) (gsCons (gNm 2) (gsCons (gNm 3) gsNil)))))
  (sRet (eIf (bV (eBin oGt (eVar 3) (eC (.int 1)))) (eFs [(eUn fmtT (eVar 1)), (eC (.str "+")), (eUn fmtT (eVar 2)), (eC (.str "x")), (eUn fmtT (eVar 3))]) (eB fStr (lCons (eVar 1) lNil)))))

/-! motions_text -/
abbrev st_motions_text : Stmt := top 27
abbrev sc_motions_text : Scope := defScope st_motions_text
abbrev N_motions_text : List Str := ["motions", "run"]
noncomputable def b_motions_text (C : CallT) : Sv := (sRet (eG (eCall C "listed" (lDef (lCons (eComp (lComp (iSeq (eVar 0)) (gNm 1) bYes (eCall C "run_text" (lDef (lCons (eVar 1) lNil) [])) [1])) lNil) []))))

/-! words_of -/
abbrev st_words_of : Stmt := top 28
abbrev sc_words_of : Scope := defScope st_words_of
abbrev N_words_of : List Str := ["value"]
noncomputable def b_words_of (C : CallT) : Sv := (sSeq (sIf (bNot (bT (eB fIsI (lCons (eVar 0) (lCons (eC (.ty "str")) lNil))))) (fun _ _ => .bad) sNil)
  (sRet (eIf (bV (eBin oEq (eVar 0) (eC (.str "none")))) (eLst lNil) (eM "str" mSplit (eVar 0) (lCons (eC (.str " ")) lNil)))))

/-! read_lamp -/
abbrev st_read_lamp : Stmt := top 29
abbrev sc_read_lamp : Scope := defScope st_read_lamp
abbrev N_read_lamp : List Str := ["word", "kind", "rest", "found"]
noncomputable def b_read_lamp (C : CallT) : Sv := (sSeq (sAsg (eM "str" mSplit (eVar 0) (lCons (eC (.str ":")) lNil)) (gStF (gsCons (gNm 1) (gsCons (gNm 2) gsNil))))
  (sSeq (sAsg (eIf (bV (eBin oEq (eB fLen (lCons (eVar 2) lNil)) (eC (.int 1)))) (eTup (lCons (eVar 1) (lCons (eCall C "read_integer" (lDef (lCons (eBin oIx (eVar 2) (eC (.int 0))) lNil) [])) lNil))) (eC .non)) (gNm 3))
  (sRet (eIf (bT (eCall C "is_lamp" (lDef (lCons (eVar 3) lNil) []))) (eVar 3) (eC .non)))))

/-! parse_lamps -/
abbrev st_parse_lamps : Stmt := top 30
abbrev sc_parse_lamps : Scope := defScope st_parse_lamps
abbrev N_parse_lamps : List Str := ["value", "found", "at", "word", "lamp"]
noncomputable def b_parse_lamps (C : CallT) : Sv := (sSeq (sAsg (eLst lNil) (gNm 1))
  (sSeq (sFor (iEn (lCons (eCall C "words_of" (lDef (lCons (eVar 0) lNil) [])) lNil)) (gTp 2 (gsCons (gNm 2) (gsCons (gNm 3) gsNil))) (sSeq (sAsg (eCall C "read_lamp" (lDef (lCons (eVar 3) lNil) [])) (gNm 4))
  (sSeq (sIf (bOr (bV (eBin oIsN (eVar 4) (eC .non))) (bV (eBin oGe (eVar 2) (eC (.int 6))))) (fun _ _ => .bad) sNil)
  (sEx (eM "list" mAppend (eVar 1) (lCons (eVar 4) lNil))))))
  (sRet (eB fTup (lCons (eVar 1) lNil)))))

/-! parse_log -/
abbrev st_parse_log : Stmt := top 31
abbrev sc_parse_log : Scope := defScope st_parse_log
abbrev N_parse_log : List Str := ["value", "found", "last", "at", "word", "stretch"]
noncomputable def b_parse_log (C : CallT) : Sv := (sSeq (sPar 1 2 (lCons (eLst lNil) (lCons (eUn uNeg (eC (.int 1))) lNil)))
  (sSeq (sFor (iEn (lCons (eCall C "words_of" (lDef (lCons (eVar 0) lNil) [])) lNil)) (gTp 2 (gsCons (gNm 3) (gsCons (gNm 4) gsNil))) (sSeq (sAsg (eCall C "read_pair" (lDef (lCons (eVar 4) (lCons (eC (.str "-")) lNil)) [])) (gNm 5))
  (sSeq (sIf (bOr (bNot (bT (eCall C "is_stretch" (lDef (lCons (eVar 5) lNil) [])))) (bOr (bV (eBin oLe (eBin oIx (eVar 5) (eC (.int 0))) (eVar 2))) (bV (eBin oGe (eVar 3) (eC (.int 60)))))) (fun _ _ => .bad) sNil)
  (sSeq (sEx (eM "list" mAppend (eVar 1) (lCons (eVar 5) lNil)))
  (sAsg (eBin oIx (eVar 5) (eC (.int 1))) (gNm 2))))))
  (sRet (eB fTup (lCons (eVar 1) lNil)))))

/-! read_run -/
abbrev st_read_run : Stmt := top 32
abbrev sc_read_run : Scope := defScope st_read_run
abbrev N_read_run : List Str := ["word", "head", "rest", "first", "pair"]
noncomputable def b_read_run (C : CallT) : Sv := (sSeq (sAsg (eM "str" mSplit (eVar 0) (lCons (eC (.str "+")) lNil)) (gStF (gsCons (gNm 1) (gsCons (gNm 2) gsNil))))
  (sSeq (sAsg (eCall C "read_integer" (lDef (lCons (eVar 1) lNil) [])) (gNm 3))
  (sSeq (sIf (bV (eBin oEq (eVar 2) (eLst lNil))) (sRet (eIf (bV (eBin oNotN (eVar 3) (eC .non))) (eTup (lCons (eVar 3) (lCons (eC (.int 1)) (lCons (eC (.int 1)) lNil)))) (eC .non))) sNil)
  (sSeq (sAsg (eCall C "read_pair" (lDef (lCons (eBin oIx (eVar 2) (eC (.int 0))) (lCons (eC (.str "x")) lNil)) [])) (gNm 4))
  (sSeq (sIf (bOr (bV (eBin oGt (eB fLen (lCons (eVar 2) lNil)) (eC (.int 1)))) (bOr (bV (eBin oIsN (eVar 3) (eC .non))) (bOr (bV (eBin oIsN (eVar 4) (eC .non))) (bV (eBin oLt (eBin oIx (eVar 4) (eC (.int 1))) (eC (.int 2))))))) (sRet (eC .non)) sNil)
  (sRet (eTup (lCons (eVar 3) (lStar (eVar 4) lNil)))))))))

/-! parse_motions -/
abbrev st_parse_motions : Stmt := top 33
abbrev sc_parse_motions : Scope := defScope st_parse_motions
abbrev N_parse_motions : List Str := ["value", "found", "last", "at", "word", "run"]
noncomputable def b_parse_motions (C : CallT) : Sv := (sSeq (sPar 1 2 (lCons (eLst lNil) (lCons (eUn uNeg (eC (.int 1))) lNil)))
  (sSeq (sFor (iEn (lCons (eCall C "words_of" (lDef (lCons (eVar 0) lNil) [])) lNil)) (gTp 2 (gsCons (gNm 3) (gsCons (gNm 4) gsNil))) (sSeq (sAsg (eCall C "read_run" (lDef (lCons (eVar 4) lNil) [])) (gNm 5))
  (sSeq (sIf (bOr (bNot (bT (eCall C "is_run" (lDef (lCons (eVar 5) lNil) [])))) (bOr (bV (eBin oLe (eBin oIx (eVar 5) (eC (.int 0))) (eVar 2))) (bV (eBin oGe (eVar 3) (eC (.int 360)))))) (fun _ _ => .bad) sNil)
  (sSeq (sEx (eM "list" mAppend (eVar 1) (lCons (eVar 5) lNil)))
  (sAsg (eCall C "end_of" (lDef (lCons (eVar 5) lNil) [])) (gNm 2))))))
  (sRet (eB fTup (lCons (eVar 1) lNil)))))

/-! _law_opened -/
abbrev st__law_opened : Stmt := top 35
abbrev sc__law_opened : Scope := defScope st__law_opened
abbrev N__law_opened : List Str := ["script", "cells", "cell"]
noncomputable def b__law_opened (C : CallT) : Sv := (sSeq (sAsg (eComp (lComp (iSeq (eSl (eVar 0) pNone (pSome (eC (.int 64))))) (gNm 2) bYes (eB fAbs (lCons (eVar 2) lNil)) [2])) (gNm 1))
  (sRet (eDct [((eC (.str "deep")), (eComp (lComp (iSeq (eVar 1)) (gNm 2) (bV (eBin oGe (eVar 2) (eBin oPow (eC (.int 10)) (eC (.int 18))))) (eVar 2) [2]))), ((eC (.str "all")), (eBin oAdd (eVar 1) (eBin oMul (eLst (lCons (eC (.int 53)) lNil)) (eB fInt (lCons (eBin oEq (eVar 1) (eLst lNil)) lNil))))), ((eC (.str "times")), (eC (.int 0)))])))

/-! _law_draw -/
abbrev st__law_draw : Stmt := top 36
abbrev sc__law_draw : Scope := defScope st__law_draw
abbrev N__law_draw : List Str := ["pot", "many", "rest", "times", "cells", "seed"]
noncomputable def b__law_draw (C : CallT) : Sv := (sSeq (sWhile (bV (eBin oNe (eBin oIx (eVar 0) (eC (.str "deep"))) (eLst lNil))) (sSeq (sAsg (eM "list" mPop (eBin oIx (eVar 0) (eC (.str "deep"))) (lCons (eC (.int 0)) lNil)) (gNm 2))
  (sIf (bV (eBin oGt (eVar 2) (eC (.int 0)))) (sSeq (sEx (eM "list" mInsert (eBin oIx (eVar 0) (eC (.str "deep"))) (lCons (eC (.int 0)) (lCons (eBin oDiv (eVar 2) (eVar 1)) lNil))))
  (sRet (eBin oMod (eVar 2) (eVar 1)))) sNil)))
  (sSeq (sPar 3 4 (lCons (eBin oIx (eVar 0) (eC (.str "times"))) (lCons (eBin oIx (eVar 0) (eC (.str "all"))) lNil)))
  (sSeq (sAsg (eBin oAdd (eVar 3) (eC (.int 1))) (gSubF (eVar 0) (eC (.str "times"))))
  (sSeq (sAsg (eBin oAdd (eBin oMod (eBin oIx (eVar 4) (eBin oMod (eVar 3) (eB fLen (lCons (eVar 4) lNil)))) (eC (.int 4294967291))) (eBin oMul (eC (.int 2246822519)) (eBin oAdd (eVar 3) (eC (.int 1))))) (gNm 5))
  (sSeq (sAsg (eBin oMod (eBin oMul (eBin oMod (eVar 5) (eC (.int 4294967291))) (eBin oAdd (eBin oMod (eVar 5) (eC (.int 50021))) (eC (.int 13)))) (eC (.int 4294967291))) (gNm 5))
  (sSeq (sAsg (eBin oMod (eBin oMul (eBin oMod (eBin oAdd (eBin oMul (eVar 5) (eVar 5)) (eBin oMul (eC (.int 668265263)) (eVar 3))) (eC (.int 4294967291))) (eC (.int 374761393))) (eC (.int 4294967291))) (gNm 5))
  (sRet (eBin oMod (eBin oDiv (eVar 5) (eC (.int 16))) (eVar 1)))))))))

/-! _law_one -/
abbrev st__law_one : Stmt := top 37
abbrev sc__law_one : Scope := defScope st__law_one
abbrev N__law_one : List Str := ["pot", "items"]
noncomputable def b__law_one (C : CallT) : Sv := (sRet (eBin oIx (eVar 1) (eCall C "_law_draw" (lDef (lCons (eVar 0) (lCons (eB fLen (lCons (eVar 1) lNil)) lNil)) []))))

/-! _law_lamp -/
abbrev st__law_lamp : Stmt := top 38
abbrev sc__law_lamp : Scope := defScope st__law_lamp
abbrev N__law_lamp : List Str := ["pot", "great", "stay"]
noncomputable def b__law_lamp (C : CallT) : Sv := (sSeq (sAsg (eG (eCall C "_law_one" (lDef (lCons (eVar 0) (lCons (eLst (lCons (eC (.int 1)) (lCons (eC (.int 2)) (lCons (eBin oAdd (eC (.int 1)) (eCall C "_law_draw" (lDef (lCons (eVar 0) (lCons (eC (.int 12)) lNil)) []))) (lCons (eBin oAdd (eC (.int 1)) (eCall C "_law_draw" (lDef (lCons (eVar 0) (lCons (eC (.int 40)) lNil)) []))) (lCons (eBin oAdd (eC (.int 1)) (eCall C "_law_draw" (lDef (lCons (eVar 0) (lCons (eVar 1) lNil)) []))) (lCons (eVar 1) lNil))))))) lNil)) []))) (gNm 2))
  (sRet (eTup (lCons (eG (eCall C "_law_one" (lDef (lCons (eVar 0) (lCons (eLst (lCons (eC (.str "hold")) (lCons (eC (.str "pulse")) lNil))) lNil)) []))) (lCons (eVar 2) lNil)))))

/-! _law_far_runs -/
abbrev st__law_far_runs : Stmt := top 39
abbrev sc__law_far_runs : Scope := defScope st__law_far_runs
abbrev N__law_far_runs : List Str := ["pot", "upto", "found", "here", "most", "k", "step", "count", "pause"]
noncomputable def b__law_far_runs (C : CallT) : Sv := (sSeq (sPar3 2 3 4 (lCons (eLst lNil) (lCons (eG (eCall C "_law_one" (lDef (lCons (eVar 0) (lCons (eLst (lCons (eC (.int 0)) (lCons (eCall C "_law_draw" (lDef (lCons (eVar 0) (lCons (eC (.int 100)) lNil)) [])) (lCons (eCall C "_law_draw" (lDef (lCons (eVar 0) (lCons (eBin oPow (eC (.int 10)) (eC (.int 8))) lNil)) [])) lNil)))) lNil)) []))) (lCons (eBin oPow (eC (.int 10)) (eC (.int 9))) lNil))))
  (sSeq (sFor (iRg1 (lCons (eCall C "_law_draw" (lDef (lCons (eVar 0) (lCons (eBin oAdd (eVar 1) (eC (.int 1))) lNil)) [])) lNil)) (gNm 5) (sSeq (sAsg (eG (eCall C "_law_one" (lDef (lCons (eVar 0) (lCons (eLst (lCons (eC (.int 1)) (lCons (eC (.int 2)) (lCons (eBin oAdd (eC (.int 1)) (eCall C "_law_draw" (lDef (lCons (eVar 0) (lCons (eC (.int 30)) lNil)) []))) (lCons (eBin oAdd (eC (.int 1)) (eCall C "_law_draw" (lDef (lCons (eVar 0) (lCons (eBin oPow (eC (.int 10)) (eC (.int 6))) lNil)) []))) (lCons (eBin oPow (eC (.int 10)) (eC (.int 8))) lNil)))))) lNil)) []))) (gNm 6))
  (sSeq (sAsg (eBin oAdd (eC (.int 1)) (eB fMin2 (lCons (eBin oDiv (eBin oSub (eVar 4) (eVar 3)) (eVar 6)) (lCons (eG (eCall C "_law_one" (lDef (lCons (eVar 0) (lCons (eLst (lCons (eC (.int 0)) (lCons (eC (.int 1)) (lCons (eCall C "_law_draw" (lDef (lCons (eVar 0) (lCons (eC (.int 6)) lNil)) [])) (lCons (eCall C "_law_draw" (lDef (lCons (eVar 0) (lCons (eBin oPow (eC (.int 10)) (eC (.int 7))) lNil)) [])) (lCons (eVar 4) lNil)))))) lNil)) []))) lNil)))) (gNm 7))
  (sIf (bV (eBin oLe (eVar 3) (eVar 4))) (sSeq (sEx (eM "list" mAppend (eVar 2) (lCons (eTup (lCons (eVar 3) (lCons (eIf (bV (eBin oGt (eVar 7) (eC (.int 1)))) (eVar 6) (eC (.int 1))) (lCons (eVar 7) lNil)))) lNil)))
  (sSeq (sAsg (eG (eCall C "_law_one" (lDef (lCons (eVar 0) (lCons (eLst (lCons (eC (.int 1)) (lCons (eC (.int 2)) (lCons (eBin oAdd (eC (.int 1)) (eCall C "_law_draw" (lDef (lCons (eVar 0) (lCons (eC (.int 99)) lNil)) []))) (lCons (eBin oAdd (eC (.int 1)) (eCall C "_law_draw" (lDef (lCons (eVar 0) (lCons (eBin oPow (eC (.int 10)) (eC (.int 7))) lNil)) []))) lNil))))) lNil)) []))) (gNm 8))
  (sAsg (eBin oAdd (eBin oAdd (eVar 3) (eBin oMul (eVar 6) (eBin oSub (eVar 7) (eC (.int 1))))) (eVar 8)) (gNm 3)))) sNil))))
  (sRet (eB fTup (lCons (eVar 2) lNil)))))

/-! _law_log -/
abbrev st__law_log : Stmt := top 40
abbrev sc__law_log : Scope := defScope st__law_log
abbrev N__law_log : List Str := ["pot", "upto", "great", "found", "here", "k", "size", "part"]
noncomputable def b__law_log (C : CallT) : Sv := (sSeq (sPar 3 4 (lCons (eLst lNil) (lCons (eG (eCall C "_law_one" (lDef (lCons (eVar 0) (lCons (eLst (lCons (eC (.int 0)) (lCons (eC (.int 1)) (lCons (eCall C "_law_draw" (lDef (lCons (eVar 0) (lCons (eVar 2) lNil)) [])) lNil)))) lNil)) []))) lNil)))
  (sSeq (sFor (iRg1 (lCons (eCall C "_law_draw" (lDef (lCons (eVar 0) (lCons (eBin oAdd (eVar 1) (eC (.int 1))) lNil)) [])) lNil)) (gNm 5) (sSeq (sAsg (eG (eCall C "_law_one" (lDef (lCons (eVar 0) (lCons (eLst (lCons (eC (.int 1)) (lCons (eC (.int 2)) (lCons (eBin oAdd (eC (.int 1)) (eCall C "_law_draw" (lDef (lCons (eVar 0) (lCons (eC (.int 20)) lNil)) []))) (lCons (eBin oAdd (eC (.int 1)) (eCall C "_law_draw" (lDef (lCons (eVar 0) (lCons (eVar 2) lNil)) []))) lNil))))) lNil)) []))) (gNm 6))
  (sSeq (sEx (eM "list" mAppend (eVar 3) (lCons (eTup (lCons (eVar 4) (lCons (eBin oAdd (eVar 4) (eVar 6)) lNil))) lNil)))
  (sAsg (eBin oAdd (eBin oAdd (eVar 4) (eVar 6)) (eG (eCall C "_law_one" (lDef (lCons (eVar 0) (lCons (eLst (lCons (eC (.int 1)) (lCons (eC (.int 2)) (lCons (eBin oAdd (eC (.int 1)) (eCall C "_law_draw" (lDef (lCons (eVar 0) (lCons (eC (.int 20)) lNil)) []))) (lCons (eBin oAdd (eC (.int 1)) (eCall C "_law_draw" (lDef (lCons (eVar 0) (lCons (eVar 2) lNil)) []))) lNil))))) lNil)) [])))) (gNm 4)))))
  (sRet (eTmp hTup (lComp (iSeq (eVar 3)) (gNm 7) (bV (eBin oLe (eBin oIx (eVar 7) (eC (.int 1))) (eBin oMul (eC (.int 2)) (eBin oPow (eC (.int 10)) (eC (.int 9)))))) (eVar 7) [7])))))

/-! _law_lamps_text -/
abbrev st__law_lamps_text : Stmt := top 41
abbrev sc__law_lamps_text : Scope := defScope st__law_lamps_text
abbrev N__law_lamps_text : List Str := ["lamps", "lamp"]
noncomputable def b__law_lamps_text (C : CallT) : Sv := (sRet (eIf (bV (eBin oNe (eVar 0) (eTup lNil))) (eJoin (eC (.str " ")) (lComp (iSeq (eVar 0)) (gNm 1) bYes (eBin oAdd (eBin oAdd (eBin oIx (eVar 1) (eC (.int 0))) (eC (.str ":"))) (eB fStr (lCons (eBin oIx (eVar 1) (eC (.int 1))) lNil))) [1])) (eC (.str "none"))))

/-! _law_log_text -/
abbrev st__law_log_text : Stmt := top 42
abbrev sc__law_log_text : Scope := defScope st__law_log_text
abbrev N__law_log_text : List Str := ["log", "on", "off"]
noncomputable def b__law_log_text (C : CallT) : Sv := (sRet (eIf (bV (eBin oNe (eVar 0) (eTup lNil))) (eJoin (eC (.str " ")) (lComp (iSeq (eVar 0)) (gTp 2 (gsCons (gNm 1) (gsCons (gNm 2) gsNil))) bYes (eBin oAdd (eBin oAdd (eB fStr (lCons (eVar 1) lNil)) (eC (.str "-"))) (eB fStr (lCons (eVar 2) lNil))) [1, 2])) (eC (.str "none"))))

/-! _law_runs_text -/
abbrev st__law_runs_text : Stmt := top 43
abbrev sc__law_runs_text : Scope := defScope st__law_runs_text
abbrev N__law_runs_text : List Str := ["runs", "found", "first", "step", "count"]
noncomputable def b__law_runs_text (C : CallT) : Sv := (sSeq (sAsg (eLst lNil) (gNm 1))
  (sSeq (sFor (iSeq (eVar 0)) (gTp 3 (gsCons (gNm 2) (gsCons (gNm 3) (gsCons (gNm 4) gsNil)))) (sEx (eM "list" mAppend (eVar 1) (lCons (eBin oAdd (eB fStr (lCons (eVar 2) lNil)) (eIf (bV (eBin oGt (eVar 4) (eC (.int 1)))) (eBin oAdd (eBin oAdd (eBin oAdd (eC (.str "+")) (eB fStr (lCons (eVar 3) lNil))) (eC (.str "x"))) (eB fStr (lCons (eVar 4) lNil))) (eC (.str "")))) lNil))))
  (sRet (eIf (bV (eBin oNe (eVar 0) (eTup lNil))) (eM "str" mJoin (eC (.str " ")) (lCons (eVar 1) lNil)) (eC (.str "none"))))))

/-! law -/
abbrev st_law : Stmt := top 44
abbrev sc_law : Scope := defScope st_law
abbrev N_law : List Str := ["script", "pot", "turn", "lamps", "log", "runs", "text", "step", "many", "k"]
noncomputable def b_law (C : CallT) : Sv := (sSeq (sAsg (eCall C "_law_opened" (lDef (lCons (eVar 0) lNil) [])) (gNm 1))
  (sSeq (sFor (iRg1 (lCons (eC (.int 10)) lNil)) (gNm 2) (sSeq (sAsg (eTmp hTup (lComp (iRg1 (lCons (eCall C "_law_draw" (lDef (lCons (eVar 1) (lCons (eC (.int 7)) lNil)) [])) lNil)) (gNm 9) bYes (eCall C "_law_lamp" (lDef (lCons (eVar 1) (lCons (eBin oPow (eC (.int 10)) (eC (.int 9))) lNil)) [])) [9])) (gNm 3))
  (sSeq (sPar 4 5 (lCons (eG (eCall C "_law_log" (lDef (lCons (eVar 1) (lCons (eC (.int 60)) (lCons (eG (eCall C "_law_one" (lDef (lCons (eVar 1) (lCons (eLst (lCons (eC (.int 4)) (lCons (eBin oPow (eC (.int 10)) (eC (.int 7))) lNil))) lNil)) []))) lNil))) []))) (lCons (eCall C "_law_far_runs" (lDef (lCons (eVar 1) (lCons (eC (.int 40)) lNil)) [])) lNil)))
  (sSeq (sAsg (eCall C "_law_lamps_text" (lDef (lCons (eVar 3) lNil) [])) (gNm 6))
  (sSeq (sIf (bV (eBin oNe (eB fRepr (lCons (eLst (lCons (eCall C "lamps_text" (lDef (lCons (eVar 3) lNil) [])) (lCons (eCall C "parse_lamps" (lDef (lCons (eVar 6) lNil) [])) lNil))) lNil)) (eB fRepr (lCons (eLst (lCons (eVar 6) (lCons (eVar 3) lNil))) lNil)))) (sRet (eC (.bl false))) sNil)
  (sSeq (sAsg (eCall C "_law_log_text" (lDef (lCons (eVar 4) lNil) [])) (gNm 6))
  (sSeq (sIf (bV (eBin oNe (eB fRepr (lCons (eLst (lCons (eCall C "log_text" (lDef (lCons (eVar 4) lNil) [])) (lCons (eCall C "parse_log" (lDef (lCons (eVar 6) lNil) [])) lNil))) lNil)) (eB fRepr (lCons (eLst (lCons (eVar 6) (lCons (eVar 4) lNil))) lNil)))) (sRet (eC (.bl false))) sNil)
  (sSeq (sAsg (eCall C "_law_runs_text" (lDef (lCons (eVar 5) lNil) [])) (gNm 6))
  (sIf (bV (eBin oNe (eB fRepr (lCons (eLst (lCons (eCall C "motions_text" (lDef (lCons (eVar 5) lNil) [])) (lCons (eCall C "parse_motions" (lDef (lCons (eVar 6) lNil) [])) lNil))) lNil)) (eB fRepr (lCons (eLst (lCons (eVar 6) (lCons (eVar 5) lNil))) lNil)))) (sRet (eC (.bl false))) sNil)))))))))
  (sSeq (sAsg (eBin oAdd (eC (.int 1)) (eCall C "_law_draw" (lDef (lCons (eVar 1) (lCons (eC (.int 9)) lNil)) []))) (gNm 7))
  (sSeq (sAsg (eTmp hTup (lComp (iRg1 (lCons (eC (.int 360)) lNil)) (gNm 9) bYes (eIf (bV (eBin oGt (eBin oMod (eVar 9) (eC (.int 3))) (eC (.int 0)))) (eTup (lCons (eBin oMul (eC (.int 60)) (eVar 9)) (lCons (eVar 7) (lCons (eBin oAdd (eC (.int 1)) (eBin oMod (eVar 9) (eC (.int 3)))) lNil)))) (eTup (lCons (eBin oMul (eC (.int 60)) (eVar 9)) (lCons (eC (.int 1)) (lCons (eC (.int 1)) lNil))))) [9])) (gNm 8))
  (sRet (eAnd (eBin oEq (eCall C "parse_motions" (lDef (lCons (eCall C "_law_runs_text" (lDef (lCons (eVar 8) lNil) [])) lNil) [])) (eVar 8)) (eBin oEq (eCall C "motions_text" (lDef (lCons (eVar 8) lNil) [])) (eCall C "_law_runs_text" (lDef (lCons (eVar 8) lNil) [])))))))))
theorem ok_is_integer {X : Cx} {W : WX} {k : Nat} {C : CallT} (G : Gs X.K X.mg) (Q : Gc X.prog X.w X.K X.mg X.base k C) (c : Cy X W N_is_integer sc_is_integer k) (po : PassesOwn (model X.prog X.w) X.A X.env X.xe) (fnc : ∀ x, X.fn x = true) : FSs X W (defBody st_is_integer) (b_is_integer C) :=
  (s_one (s_ret (r_and (r_callB c.B f_isI rfl G.f_isinstance bt_isinstance (l_cons (r_var (i := 0) c.B rfl rfl) (l_cons (r_ty c.B rfl G.f_int bt_int) l_nil))) (r_and (r_not (r_callB c.B f_isI rfl G.f_isinstance bt_isinstance (l_cons (r_var (i := 0) c.B rfl rfl) (l_cons (r_ty c.B rfl G.f_bool bt_bool) l_nil)))) (r_one (r_chain f_le f_le rfl (r_var (i := 1) c.B rfl rfl) (r_var (i := 0) c.B rfl rfl) (r_var (i := 2) c.B rfl rfl)))))))
theorem ok_is_minute {X : Cx} {W : WX} {k : Nat} {C : CallT} (G : Gs X.K X.mg) (Q : Gc X.prog X.w X.K X.mg X.base k C) (c : Cy X W N_is_minute sc_is_minute k) (po : PassesOwn (model X.prog X.w) X.A X.env X.xe) (fnc : ∀ x, X.fn x = true) : FSs X W (defBody st_is_minute) (b_is_minute C) :=
  (s_one (s_ret (r_call c.B Q.c_is_integer c.rm c.tk rfl G.d_is_integer (l_cons (r_var (i := 0) c.B rfl rfl) (l_cons r_int (l_cons (r_gint c.B rfl G.i_MAX_MINUTE) l_nil))))))
theorem ok_is_lamp {X : Cx} {W : WX} {k : Nat} {C : CallT} (G : Gs X.K X.mg) (Q : Gc X.prog X.w X.K X.mg X.base k C) (c : Cy X W N_is_lamp sc_is_lamp k) (po : PassesOwn (model X.prog X.w) X.A X.env X.xe) (fnc : ∀ x, X.fn x = true) : FSs X W (defBody st_is_lamp) (b_is_lamp C) :=
  (s_seq (s_if (FW.fb (t_or (t_not (t_tru (r_callB c.B f_isI rfl G.f_isinstance bt_isinstance (l_cons (r_var (i := 0) c.B rfl rfl) (l_cons (r_ty c.B rfl G.f_tuple bt_tuple) l_nil))))) (t_or (t_cmp (f_ne c.hu) rfl (r_callB c.B f_len rfl G.f_len bt_len (l_cons (r_var (i := 0) c.B rfl rfl) l_nil)) r_int) (t_or1 (t_not (t_tru (r_callB c.B f_isI rfl G.f_isinstance bt_isinstance (l_cons (r_ix c.hu1 (r_var (i := 0) c.B rfl rfl) r_int (by intro _ _; rfl)) (l_cons (r_ty c.B rfl G.f_str bt_str) l_nil))))))))) (s_one (s_ret r_bl)) s_nil)
  (s_one (s_ret (r_and (r_cmp f_in rfl (r_ix c.hu1 (r_var (i := 0) c.B rfl rfl) r_int (by intro _ _; rfl)) (r_tup (l_cons (r_gstr c.B rfl G.s_HOLD) (l_cons (r_gstr c.B rfl G.s_PULSE) l_nil)))) (r_one (r_call c.B Q.c_is_integer c.rm c.tk rfl G.d_is_integer (l_cons (r_ix c.hu1 (r_var (i := 0) c.B rfl rfl) r_int (by intro _ _; rfl)) (l_cons r_int (l_cons (r_gint c.B rfl G.i_MAX_MINUTE) l_nil)))))))))
theorem ok_end_of {X : Cx} {W : WX} {k : Nat} {C : CallT} (G : Gs X.K X.mg) (Q : Gc X.prog X.w X.K X.mg X.base k C) (c : Cy X W N_end_of sc_end_of k) (po : PassesOwn (model X.prog X.w) X.A X.env X.xe) (fnc : ∀ x, X.fn x = true) : FSs X W (defBody st_end_of) (b_end_of C) :=
  (s_seq (s_asg (ws := [1, 2, 3]) (r_var (i := 0) c.B rfl rfl) (g_tup c.B (gs_cons (g_nm (i := 1) c.B rfl rfl (by decide)) (gs_cons (g_nm (i := 2) c.B rfl rfl (by decide)) (gs_cons (g_nm (i := 3) c.B rfl rfl (by decide)) gs_nil)))) (gTp_ok (gsCons_ok (gsCons_ok (gsCons_ok gsNil_ok)))))
  (s_one (s_ret (r_bin f_add (r_var (i := 1) c.B rfl rfl) (r_bin f_mul (r_var (i := 2) c.B rfl rfl) (r_bin f_sub (r_var (i := 3) c.B rfl rfl) r_int))))))
theorem ok_is_run {X : Cx} {W : WX} {k : Nat} {C : CallT} (G : Gs X.K X.mg) (Q : Gc X.prog X.w X.K X.mg X.base k C) (c : Cy X W N_is_run sc_is_run k) (po : PassesOwn (model X.prog X.w) X.A X.env X.xe) (fnc : ∀ x, X.fn x = true) : FSs X W (defBody st_is_run) (b_is_run C) :=
  (s_seq (s_if (FW.fb (t_or (t_not (t_tru (r_callB c.B f_isI rfl G.f_isinstance bt_isinstance (l_cons (r_var (i := 0) c.B rfl rfl) (l_cons (r_ty c.B rfl G.f_tuple bt_tuple) l_nil))))) (t_or (t_cmp (f_ne c.hu) rfl (r_callB c.B f_len rfl G.f_len bt_len (l_cons (r_var (i := 0) c.B rfl rfl) l_nil)) r_int) (t_or1 (t_not (t_tru (r_call c.B Q.c_is_minute c.rm c.tk rfl G.d_is_minute (l_cons (r_ix c.hu1 (r_var (i := 0) c.B rfl rfl) r_int (by intro _ _; rfl)) l_nil)))))))) (s_one (s_ret r_bl)) s_nil)
  (s_seq (s_asg (ws := [1, 2, 3]) (r_var (i := 0) c.B rfl rfl) (g_tup c.B (gs_cons (g_nm (i := 1) c.B rfl rfl (by decide)) (gs_cons (g_nm (i := 2) c.B rfl rfl (by decide)) (gs_cons (g_nm (i := 3) c.B rfl rfl (by decide)) gs_nil)))) (gTp_ok (gsCons_ok (gsCons_ok (gsCons_ok gsNil_ok)))))
  (s_seq (s_if (FW.fb (t_or (t_not (t_tru (r_call c.B Q.c_is_integer c.rm c.tk rfl G.d_is_integer (l_cons (r_var (i := 2) c.B rfl rfl) (l_cons r_int (l_cons (r_gint c.B rfl G.i_MAX_MINUTE) l_nil)))))) (t_or1 (t_not (t_tru (r_call c.B Q.c_is_integer c.rm c.tk rfl G.d_is_integer (l_cons (r_var (i := 3) c.B rfl rfl) (l_cons r_int (l_cons (r_bin f_add (r_gint c.B rfl G.i_MAX_MINUTE) r_int) l_nil))))))))) (s_one (s_ret r_bl)) s_nil)
  (s_one (s_ret (r_and (r_cmp f_le rfl (r_call c.B Q.c_end_of c.rm c.tk rfl G.d_end_of (l_cons (r_var (i := 0) c.B rfl rfl) l_nil)) (r_gint c.B rfl G.i_MAX_MINUTE)) (r_one (r_or (r_cmp f_gt rfl (r_var (i := 3) c.B rfl rfl) r_int) (r_one (r_cmp (f_eq c.hu) rfl (r_var (i := 2) c.B rfl rfl) r_int))))))))))
theorem ok_is_stretch {X : Cx} {W : WX} {k : Nat} {C : CallT} (G : Gs X.K X.mg) (Q : Gc X.prog X.w X.K X.mg X.base k C) (c : Cy X W N_is_stretch sc_is_stretch k) (po : PassesOwn (model X.prog X.w) X.A X.env X.xe) (fnc : ∀ x, X.fn x = true) : FSs X W (defBody st_is_stretch) (b_is_stretch C) :=
  (s_seq (s_if (FW.fb (t_or (t_not (t_tru (r_callB c.B f_isI rfl G.f_isinstance bt_isinstance (l_cons (r_var (i := 0) c.B rfl rfl) (l_cons (r_ty c.B rfl G.f_tuple bt_tuple) l_nil))))) (t_or (t_cmp (f_ne c.hu) rfl (r_callB c.B f_len rfl G.f_len bt_len (l_cons (r_var (i := 0) c.B rfl rfl) l_nil)) r_int) (t_or1 (t_not (t_tru (r_call c.B Q.c_is_integer c.rm c.tk rfl G.d_is_integer (l_cons (r_ix c.hu1 (r_var (i := 0) c.B rfl rfl) r_int (by intro _ _; rfl)) (l_cons r_int (l_cons (r_gint c.B rfl G.i_LIMIT) l_nil)))))))))) (s_one (s_ret r_bl)) s_nil)
  (s_one (s_ret (r_call c.B Q.c_is_integer c.rm c.tk rfl G.d_is_integer (l_cons (r_ix c.hu1 (r_var (i := 0) c.B rfl rfl) r_int (by intro _ _; rfl)) (l_cons (r_bin f_add (r_ix c.hu1 (r_var (i := 0) c.B rfl rfl) r_int (by intro _ _; rfl)) r_int) (l_cons (r_gint c.B rfl G.i_LIMIT) l_nil)))))))
theorem ok_read_integer {X : Cx} {W : WX} {k : Nat} {C : CallT} (G : Gs X.K X.mg) (Q : Gc X.prog X.w X.K X.mg X.base k C) (c : Cy X W N_read_integer sc_read_integer k) (po : PassesOwn (model X.prog X.w) X.A X.env X.xe) (fnc : ∀ x, X.fn x = true) : FSs X W (defBody st_read_integer) (b_read_integer C) :=
  (s_seq (s_if (FW.fb (t_or (t_not (t_chain f_le f_le rfl r_int (r_callB c.B f_len rfl G.f_len bt_len (l_cons (r_var (i := 0) c.B rfl rfl) l_nil)) (r_gint c.B rfl G.i_LONGEST))) (t_or1 (t_not (t_tru (r_tmpB c.B (c_all c.B.calm) rfl G.f_all bt_all (c_comp (own := [("sign", 1)]) c.B (i_seq (r_var (i := 0) c.B rfl rfl)) ⟨rfl, by decide +kernel, by decide +kernel, by decide +kernel, by decide +kernel⟩ (fun s H C cl fp => have c1 := c.blk _ s H C cl fp; (g_nm (i := 1) c1.B rfl rfl (by decide))) (fun s H C cl fp => ts_nil) (fun s H C cl fp => have c1 := c.blk _ s H C cl fp; (r_cmp f_in rfl (r_var (i := 1) c1.B rfl rfl) (r_gstr c1.B rfl G.s_DIGITS)))))))))) (s_one (s_ret r_non)) s_nil)
  (s_one (s_ret (r_if (FW.fb (t_and (t_cmp (f_eq c.hu) rfl (r_ix c.hu1 (r_var (i := 0) c.B rfl rfl) r_int (by intro _ _; rfl)) r_str) (t_and1 (t_cmp (f_ne c.hu) rfl (r_var (i := 0) c.B rfl rfl) r_str)))) r_non (r_callT c.B f_int rfl G.f_int bt_int (l_cons (r_var (i := 0) c.B rfl rfl) l_nil))))))
theorem ok_read_pair {X : Cx} {W : WX} {k : Nat} {C : CallT} (G : Gs X.K X.mg) (Q : Gc X.prog X.w X.K X.mg X.base k C) (c : Cy X W N_read_pair sc_read_pair k) (po : PassesOwn (model X.prog X.w) X.A X.env X.xe) (fnc : ∀ x, X.fn x = true) : FSs X W (defBody st_read_pair) (b_read_pair C) :=
  (s_seq (s_setLc (i := 2) (own := [("part", 3)]) c.B rfl rfl (i_seq (r_m F.plainAttrs_str F.slot_str_split F.type_str_split m_split (r_var (i := 0) c.B rfl rfl) (l_cons (r_var (i := 1) c.B rfl rfl) l_nil))) ⟨rfl, by decide +kernel, by decide +kernel, by decide +kernel, by decide +kernel⟩ rfl (fun s H C cl fp => have c1 := c.blk _ s H C cl fp; (g_nm (i := 3) c1.B rfl rfl (by decide))) (fun s H C cl fp => ts_nil) (fun s H C cl fp => have c1 := c.blk _ s H C cl fp; (r_call c1.B Q.c_read_integer c1.rm c1.tk rfl G.d_read_integer (l_cons (r_var (i := 3) c1.B rfl rfl) l_nil))))
  (s_one (s_ret (r_if (FW.fb (t_and (t_cmp (f_eq c.hu) rfl (r_callB c.B f_len rfl G.f_len bt_len (l_cons (r_var (i := 2) c.B rfl rfl) l_nil)) r_int) (t_and1 (t_cmp f_notIn rfl r_non (r_var (i := 2) c.B rfl rfl))))) (r_callT c.B f_tup rfl G.f_tuple bt_tuple (l_cons (r_var (i := 2) c.B rfl rfl) l_nil)) r_non))))
theorem ok_listed {X : Cx} {W : WX} {k : Nat} {C : CallT} (G : Gs X.K X.mg) (Q : Gc X.prog X.w X.K X.mg X.base k C) (c : Cy X W N_listed sc_listed k) (po : PassesOwn (model X.prog X.w) X.A X.env X.xe) (fnc : ∀ x, X.fn x = true) : FSs X W (defBody st_listed) (b_listed C) :=
  (s_one (s_ret (r_or (r_m F.plainAttrs_str F.slot_str_join F.type_str_join m_join r_str (l_cons (r_var (i := 0) c.B rfl rfl) l_nil)) (r_one (r_gstr c.B rfl G.s_NONE)))))
theorem ok_lamps_text {X : Cx} {W : WX} {k : Nat} {C : CallT} (G : Gs X.K X.mg) (Q : Gc X.prog X.w X.K X.mg X.base k C) (c : Cy X W N_lamps_text sc_lamps_text k) (po : PassesOwn (model X.prog X.w) X.A X.env X.xe) (fnc : ∀ x, X.fn x = true) : FSs X W (defBody st_lamps_text) (b_lamps_text C) :=
  (s_one (s_ret (r_G (r_call c.B Q.c_listed c.rm c.tk rfl G.d_listed (l_cons (r_comp (c_comp (own := [("kind", 1), ("stay", 2)]) c.B (i_seq (r_var (i := 0) c.B rfl rfl)) ⟨rfl, by decide +kernel, by decide +kernel, by decide +kernel, by decide +kernel⟩ (fun s H C cl fp => have c1 := c.blk _ s H C cl fp; (g_tup c1.B (gs_cons (g_nm (i := 1) c1.B rfl rfl (by decide)) (gs_cons (g_nm (i := 2) c1.B rfl rfl (by decide)) gs_nil)))) (fun s H C cl fp => ts_nil) (fun s H C cl fp => have c1 := c.blk _ s H C cl fp; (r_fstr (.cons (r_fmt (r_var (i := 1) c1.B rfl rfl)) (.cons r_str (.cons (r_fmt (r_var (i := 2) c1.B rfl rfl)) .nil))))))) l_nil)))))
theorem ok_log_text {X : Cx} {W : WX} {k : Nat} {C : CallT} (G : Gs X.K X.mg) (Q : Gc X.prog X.w X.K X.mg X.base k C) (c : Cy X W N_log_text sc_log_text k) (po : PassesOwn (model X.prog X.w) X.A X.env X.xe) (fnc : ∀ x, X.fn x = true) : FSs X W (defBody st_log_text) (b_log_text C) :=
  (s_one (s_ret (r_G (r_call c.B Q.c_listed c.rm c.tk rfl G.d_listed (l_cons (r_comp (c_comp (own := [("on", 1), ("off", 2)]) c.B (i_seq (r_var (i := 0) c.B rfl rfl)) ⟨rfl, by decide +kernel, by decide +kernel, by decide +kernel, by decide +kernel⟩ (fun s H C cl fp => have c1 := c.blk _ s H C cl fp; (g_tup c1.B (gs_cons (g_nm (i := 1) c1.B rfl rfl (by decide)) (gs_cons (g_nm (i := 2) c1.B rfl rfl (by decide)) gs_nil)))) (fun s H C cl fp => ts_nil) (fun s H C cl fp => have c1 := c.blk _ s H C cl fp; (r_fstr (.cons (r_fmt (r_var (i := 1) c1.B rfl rfl)) (.cons r_str (.cons (r_fmt (r_var (i := 2) c1.B rfl rfl)) .nil))))))) l_nil)))))
theorem ok_run_text {X : Cx} {W : WX} {k : Nat} {C : CallT} (G : Gs X.K X.mg) (Q : Gc X.prog X.w X.K X.mg X.base k C) (c : Cy X W N_run_text sc_run_text k) (po : PassesOwn (model X.prog X.w) X.A X.env X.xe) (fnc : ∀ x, X.fn x = true) : FSs X W (defBody st_run_text) (b_run_text C) :=
  (s_seq (s_asg (ws := [1, 2, 3]) (r_var (i := 0) c.B rfl rfl) (g_tup c.B (gs_cons (g_nm (i := 1) c.B rfl rfl (by decide)) (gs_cons (g_nm (i := 2) c.B rfl rfl (by decide)) (gs_cons (g_nm (i := 3) c.B rfl rfl (by decide)) gs_nil)))) (gTp_ok (gsCons_ok (gsCons_ok (gsCons_ok gsNil_ok)))))
  (s_one (s_ret (r_if (t_cmp f_gt rfl (r_var (i := 3) c.B rfl rfl) r_int) (r_fstr (.cons (r_fmt (r_var (i := 1) c.B rfl rfl)) (.cons r_str (.cons (r_fmt (r_var (i := 2) c.B rfl rfl)) (.cons r_str (.cons (r_fmt (r_var (i := 3) c.B rfl rfl)) .nil)))))) (r_callT c.B f_str rfl G.f_str bt_str (l_cons (r_var (i := 1) c.B rfl rfl) l_nil))))))
theorem ok_motions_text {X : Cx} {W : WX} {k : Nat} {C : CallT} (G : Gs X.K X.mg) (Q : Gc X.prog X.w X.K X.mg X.base k C) (c : Cy X W N_motions_text sc_motions_text k) (po : PassesOwn (model X.prog X.w) X.A X.env X.xe) (fnc : ∀ x, X.fn x = true) : FSs X W (defBody st_motions_text) (b_motions_text C) :=
  (s_one (s_ret (r_G (r_call c.B Q.c_listed c.rm c.tk rfl G.d_listed (l_cons (r_comp (c_comp (own := [("run", 1)]) c.B (i_seq (r_var (i := 0) c.B rfl rfl)) ⟨rfl, by decide +kernel, by decide +kernel, by decide +kernel, by decide +kernel⟩ (fun s H C cl fp => have c1 := c.blk _ s H C cl fp; (g_nm (i := 1) c1.B rfl rfl (by decide))) (fun s H C cl fp => ts_nil) (fun s H C cl fp => have c1 := c.blk _ s H C cl fp; (r_call c1.B Q.c_run_text c1.rm c1.tk rfl G.d_run_text (l_cons (r_var (i := 1) c1.B rfl rfl) l_nil))))) l_nil)))))
theorem ok_words_of {X : Cx} {W : WX} {k : Nat} {C : CallT} (G : Gs X.K X.mg) (Q : Gc X.prog X.w X.K X.mg X.base k C) (c : Cy X W N_words_of sc_words_of k) (po : PassesOwn (model X.prog X.w) X.A X.env X.xe) (fnc : ∀ x, X.fn x = true) : FSs X W (defBody st_words_of) (b_words_of C) :=
  (s_seq (s_if (t_not (t_tru (r_callB c.B f_isI rfl G.f_isinstance bt_isinstance (l_cons (r_var (i := 0) c.B rfl rfl) (l_cons (r_ty c.B rfl G.f_str bt_str) l_nil))))) (s_one s_bad) s_nil)
  (s_one (s_ret (r_if (t_cmp (f_eq c.hu) rfl (r_var (i := 0) c.B rfl rfl) (r_gstr c.B rfl G.s_NONE)) (r_lst l_nil) (r_m F.plainAttrs_str F.slot_str_split F.type_str_split m_split (r_var (i := 0) c.B rfl rfl) (l_cons r_str l_nil))))))
theorem ok_read_lamp {X : Cx} {W : WX} {k : Nat} {C : CallT} (G : Gs X.K X.mg) (Q : Gc X.prog X.w X.K X.mg X.base k C) (c : Cy X W N_read_lamp sc_read_lamp k) (po : PassesOwn (model X.prog X.w) X.A X.env X.xe) (fnc : ∀ x, X.fn x = true) : FSs X W (defBody st_read_lamp) (b_read_lamp C) :=
  (s_seq (s_asg (ws := [1, 2]) (r_m F.plainAttrs_str F.slot_str_split F.type_str_split m_split (r_var (i := 0) c.B rfl rfl) (l_cons r_str l_nil)) (g_star c.B (gs_cons (g_nm (i := 1) c.B rfl rfl (by decide)) (gs_cons (g_nm (i := 2) c.B rfl rfl (by decide)) gs_nil))) (gStF_ok (gsCons_ok (gsCons_ok gsNil_ok))))
  (s_seq (s_set (i := 3) c.B rfl rfl (r_if (t_cmp (f_eq c.hu) rfl (r_callB c.B f_len rfl G.f_len bt_len (l_cons (r_var (i := 2) c.B rfl rfl) l_nil)) r_int) (r_tup (l_cons (r_var (i := 1) c.B rfl rfl) (l_cons (r_call c.B Q.c_read_integer c.rm c.tk rfl G.d_read_integer (l_cons (r_ix c.hu1 (r_var (i := 2) c.B rfl rfl) r_int (by intro _ _; rfl)) l_nil)) l_nil))) r_non))
  (s_one (s_ret (r_if (t_tru (r_call c.B Q.c_is_lamp c.rm c.tk rfl G.d_is_lamp (l_cons (r_var (i := 3) c.B rfl rfl) l_nil))) (r_var (i := 3) c.B rfl rfl) r_non)))))
theorem ok_parse_lamps {X : Cx} {W : WX} {k : Nat} {C : CallT} (G : Gs X.K X.mg) (Q : Gc X.prog X.w X.K X.mg X.base k C) (c : Cy X W N_parse_lamps sc_parse_lamps k) (po : PassesOwn (model X.prog X.w) X.A X.env X.xe) (fnc : ∀ x, X.fn x = true) : FSs X W (defBody st_parse_lamps) (b_parse_lamps C) :=
  (s_seq (s_set (i := 1) c.B rfl rfl (r_lst l_nil))
  (s_seq (s_for (ws := [2, 3]) po c.B (i_en c.B rfl G.f_enumerate (l_cons (r_call c.B Q.c_words_of c.rm c.tk rfl G.d_words_of (l_cons (r_var (i := 0) c.B rfl rfl) l_nil)) l_nil)) (g_tup c.B (gs_cons (g_nm (i := 2) c.B rfl rfl (by decide)) (gs_cons (g_nm (i := 3) c.B rfl rfl (by decide)) gs_nil))) (s_seq (s_set (i := 4) c.B rfl rfl (r_call c.B Q.c_read_lamp c.rm c.tk rfl G.d_read_lamp (l_cons (r_var (i := 3) c.B rfl rfl) l_nil)))
  (s_seq (s_if (FW.fb (t_or (t_cmp f_isN rfl (r_var (i := 4) c.B rfl rfl) r_non) (t_or1 (t_cmp f_ge rfl (r_var (i := 2) c.B rfl rfl) (r_gint c.B rfl G.i_MAX_LAMPS))))) (s_one s_bad) s_nil)
  (s_one (s_ex (r_m F.plainAttrs_list F.slot_list_append F.type_list_append m_append (r_var (i := 1) c.B rfl rfl) (l_cons (r_var (i := 4) c.B rfl rfl) l_nil)))))))
  (s_one (s_ret (r_callT c.B f_tup rfl G.f_tuple bt_tuple (l_cons (r_var (i := 1) c.B rfl rfl) l_nil))))))
theorem ok_parse_log {X : Cx} {W : WX} {k : Nat} {C : CallT} (G : Gs X.K X.mg) (Q : Gc X.prog X.w X.K X.mg X.base k C) (c : Cy X W N_parse_log sc_parse_log k) (po : PassesOwn (model X.prog X.w) X.A X.env X.xe) (fnc : ∀ x, X.fn x = true) : FSs X W (defBody st_parse_log) (b_parse_log C) :=
  (s_seq (s_par (i := 1) (j := 2) c.B rfl rfl (by decide) rfl rfl (l_cons (r_lst l_nil) (l_cons (r_un f_neg r_int) l_nil)) (c.B.swS rfl))
  (s_seq (s_for (ws := [3, 4]) po c.B (i_en c.B rfl G.f_enumerate (l_cons (r_call c.B Q.c_words_of c.rm c.tk rfl G.d_words_of (l_cons (r_var (i := 0) c.B rfl rfl) l_nil)) l_nil)) (g_tup c.B (gs_cons (g_nm (i := 3) c.B rfl rfl (by decide)) (gs_cons (g_nm (i := 4) c.B rfl rfl (by decide)) gs_nil))) (s_seq (s_set (i := 5) c.B rfl rfl (r_call c.B Q.c_read_pair c.rm c.tk rfl G.d_read_pair (l_cons (r_var (i := 4) c.B rfl rfl) (l_cons r_str l_nil))))
  (s_seq (s_if (FW.fb (t_or (t_not (t_tru (r_call c.B Q.c_is_stretch c.rm c.tk rfl G.d_is_stretch (l_cons (r_var (i := 5) c.B rfl rfl) l_nil)))) (t_or (t_cmp f_le rfl (r_ix c.hu1 (r_var (i := 5) c.B rfl rfl) r_int (by intro _ _; rfl)) (r_var (i := 2) c.B rfl rfl)) (t_or1 (t_cmp f_ge rfl (r_var (i := 3) c.B rfl rfl) (r_gint c.B rfl G.i_MAX_STRETCHES)))))) (s_one s_bad) s_nil)
  (s_seq (s_ex (r_m F.plainAttrs_list F.slot_list_append F.type_list_append m_append (r_var (i := 1) c.B rfl rfl) (l_cons (r_var (i := 5) c.B rfl rfl) l_nil)))
  (s_one (s_set (i := 2) c.B rfl rfl (r_ix c.hu1 (r_var (i := 5) c.B rfl rfl) r_int (by intro _ _; rfl))))))))
  (s_one (s_ret (r_callT c.B f_tup rfl G.f_tuple bt_tuple (l_cons (r_var (i := 1) c.B rfl rfl) l_nil))))))
theorem ok_read_run {X : Cx} {W : WX} {k : Nat} {C : CallT} (G : Gs X.K X.mg) (Q : Gc X.prog X.w X.K X.mg X.base k C) (c : Cy X W N_read_run sc_read_run k) (po : PassesOwn (model X.prog X.w) X.A X.env X.xe) (fnc : ∀ x, X.fn x = true) : FSs X W (defBody st_read_run) (b_read_run C) :=
  (s_seq (s_asg (ws := [1, 2]) (r_m F.plainAttrs_str F.slot_str_split F.type_str_split m_split (r_var (i := 0) c.B rfl rfl) (l_cons r_str l_nil)) (g_star c.B (gs_cons (g_nm (i := 1) c.B rfl rfl (by decide)) (gs_cons (g_nm (i := 2) c.B rfl rfl (by decide)) gs_nil))) (gStF_ok (gsCons_ok (gsCons_ok gsNil_ok))))
  (s_seq (s_set (i := 3) c.B rfl rfl (r_call c.B Q.c_read_integer c.rm c.tk rfl G.d_read_integer (l_cons (r_var (i := 1) c.B rfl rfl) l_nil)))
  (s_seq (s_if (t_cmp (f_eq c.hu) rfl (r_var (i := 2) c.B rfl rfl) (r_lst l_nil)) (s_one (s_ret (r_if (t_cmp f_notN rfl (r_var (i := 3) c.B rfl rfl) r_non) (r_tup (l_cons (r_var (i := 3) c.B rfl rfl) (l_cons r_int (l_cons r_int l_nil)))) r_non))) s_nil)
  (s_seq (s_set (i := 4) c.B rfl rfl (r_call c.B Q.c_read_pair c.rm c.tk rfl G.d_read_pair (l_cons (r_ix c.hu1 (r_var (i := 2) c.B rfl rfl) r_int (by intro _ _; rfl)) (l_cons r_str l_nil))))
  (s_seq (s_if (FW.fb (t_or (t_cmp f_gt rfl (r_callB c.B f_len rfl G.f_len bt_len (l_cons (r_var (i := 2) c.B rfl rfl) l_nil)) r_int) (t_or (t_cmp f_isN rfl (r_var (i := 3) c.B rfl rfl) r_non) (t_or (t_cmp f_isN rfl (r_var (i := 4) c.B rfl rfl) r_non) (t_or1 (t_cmp f_lt rfl (r_ix c.hu1 (r_var (i := 4) c.B rfl rfl) r_int (by intro _ _; rfl)) r_int)))))) (s_one (s_ret r_non)) s_nil)
  (s_one (s_ret (r_tup (l_cons (r_var (i := 3) c.B rfl rfl) (l_star (r_var (i := 4) c.B rfl rfl) l_nil))))))))))
theorem ok_parse_motions {X : Cx} {W : WX} {k : Nat} {C : CallT} (G : Gs X.K X.mg) (Q : Gc X.prog X.w X.K X.mg X.base k C) (c : Cy X W N_parse_motions sc_parse_motions k) (po : PassesOwn (model X.prog X.w) X.A X.env X.xe) (fnc : ∀ x, X.fn x = true) : FSs X W (defBody st_parse_motions) (b_parse_motions C) :=
  (s_seq (s_par (i := 1) (j := 2) c.B rfl rfl (by decide) rfl rfl (l_cons (r_lst l_nil) (l_cons (r_un f_neg r_int) l_nil)) (c.B.swS rfl))
  (s_seq (s_for (ws := [3, 4]) po c.B (i_en c.B rfl G.f_enumerate (l_cons (r_call c.B Q.c_words_of c.rm c.tk rfl G.d_words_of (l_cons (r_var (i := 0) c.B rfl rfl) l_nil)) l_nil)) (g_tup c.B (gs_cons (g_nm (i := 3) c.B rfl rfl (by decide)) (gs_cons (g_nm (i := 4) c.B rfl rfl (by decide)) gs_nil))) (s_seq (s_set (i := 5) c.B rfl rfl (r_call c.B Q.c_read_run c.rm c.tk rfl G.d_read_run (l_cons (r_var (i := 4) c.B rfl rfl) l_nil)))
  (s_seq (s_if (FW.fb (t_or (t_not (t_tru (r_call c.B Q.c_is_run c.rm c.tk rfl G.d_is_run (l_cons (r_var (i := 5) c.B rfl rfl) l_nil)))) (t_or (t_cmp f_le rfl (r_ix c.hu1 (r_var (i := 5) c.B rfl rfl) r_int (by intro _ _; rfl)) (r_var (i := 2) c.B rfl rfl)) (t_or1 (t_cmp f_ge rfl (r_var (i := 3) c.B rfl rfl) (r_gint c.B rfl G.i_MAX_RUNS)))))) (s_one s_bad) s_nil)
  (s_seq (s_ex (r_m F.plainAttrs_list F.slot_list_append F.type_list_append m_append (r_var (i := 1) c.B rfl rfl) (l_cons (r_var (i := 5) c.B rfl rfl) l_nil)))
  (s_one (s_set (i := 2) c.B rfl rfl (r_call c.B Q.c_end_of c.rm c.tk rfl G.d_end_of (l_cons (r_var (i := 5) c.B rfl rfl) l_nil))))))))
  (s_one (s_ret (r_callT c.B f_tup rfl G.f_tuple bt_tuple (l_cons (r_var (i := 1) c.B rfl rfl) l_nil))))))
theorem ok__law_opened {X : Cx} {W : WX} {k : Nat} {C : CallT} (G : Gs X.K X.mg) (Q : Gc X.prog X.w X.K X.mg X.base k C) (c : Cy X W N__law_opened sc__law_opened k) (po : PassesOwn (model X.prog X.w) X.A X.env X.xe) (fnc : ∀ x, X.fn x = true) : FSs X W (defBody st__law_opened) (b__law_opened C) :=
  (s_seq (s_setLc (i := 1) (own := [("cell", 2)]) c.B rfl rfl (i_seq (r_slice (r_var (i := 0) c.B rfl rfl) p_none (p_some (W := W) r_int))) ⟨rfl, by decide +kernel, by decide +kernel, by decide +kernel, by decide +kernel⟩ rfl (fun s H C cl fp => have c1 := c.blk _ s H C cl fp; (g_nm (i := 2) c1.B rfl rfl (by decide))) (fun s H C cl fp => ts_nil) (fun s H C cl fp => have c1 := c.blk _ s H C cl fp; (r_callB c1.B f_abs rfl G.f_abs bt_abs (l_cons (r_var (i := 2) c1.B rfl rfl) l_nil))))
  (s_one (s_ret (r_dct (.cons r_str (r_comp (c_comp (own := [("cell", 2)]) c.B (i_seq (r_var (i := 1) c.B rfl rfl)) ⟨rfl, by decide +kernel, by decide +kernel, by decide +kernel, by decide +kernel⟩ (fun s H C cl fp => have c1 := c.blk _ s H C cl fp; (g_nm (i := 2) c1.B rfl rfl (by decide))) (fun s H C cl fp => have c1 := c.blk _ s H C cl fp; (ts_one (t_cmp f_ge rfl (r_var (i := 2) c1.B rfl rfl) (r_bin f_pow r_int r_int)))) (fun s H C cl fp => have c1 := c.blk _ s H C cl fp; (r_var (i := 2) c1.B rfl rfl)))) (.cons r_str (r_bin f_add (r_var (i := 1) c.B rfl rfl) (r_bin f_mul (r_lst (l_cons r_int l_nil)) (r_callT c.B f_int rfl G.f_int bt_int (l_cons (r_cmp (f_eq c.hu) rfl (r_var (i := 1) c.B rfl rfl) (r_lst l_nil)) l_nil)))) (.cons r_str r_int .nil)))))))
theorem ok__law_draw {X : Cx} {W : WX} {k : Nat} {C : CallT} (G : Gs X.K X.mg) (Q : Gc X.prog X.w X.K X.mg X.base k C) (c : Cy X W N__law_draw sc__law_draw k) (po : PassesOwn (model X.prog X.w) X.A X.env X.xe) (fnc : ∀ x, X.fn x = true) : FSs X W (defBody st__law_draw) (b__law_draw C) :=
  (s_seq (s_while po (t_cmp (f_ne c.hu) rfl (r_ix c.hu1 (r_var (i := 0) c.B rfl rfl) r_str (by intro _ _; rfl)) (r_lst l_nil)) (s_seq (s_set (i := 2) c.B rfl rfl (r_m F.plainAttrs_list F.slot_list_pop F.type_list_pop m_pop (r_ix c.hu1 (r_var (i := 0) c.B rfl rfl) r_str (by intro _ _; rfl)) (l_cons r_int l_nil)))
  (s_one (s_if (t_cmp f_gt rfl (r_var (i := 2) c.B rfl rfl) r_int) (s_seq (s_ex (r_m F.plainAttrs_list F.slot_list_insert F.type_list_insert m_insert (r_ix c.hu1 (r_var (i := 0) c.B rfl rfl) r_str (by intro _ _; rfl)) (l_cons r_int (l_cons (r_bin f_div (r_var (i := 2) c.B rfl rfl) (r_var (i := 1) c.B rfl rfl)) l_nil))))
  (s_one (s_ret (r_bin f_mod (r_var (i := 2) c.B rfl rfl) (r_var (i := 1) c.B rfl rfl))))) s_nil))))
  (s_seq (s_par (i := 3) (j := 4) c.B rfl rfl (by decide) rfl rfl (l_cons (r_ix c.hu1 (r_var (i := 0) c.B rfl rfl) r_str (by intro _ _; rfl)) (l_cons (r_ix c.hu1 (r_var (i := 0) c.B rfl rfl) r_str (by intro _ _; rfl)) l_nil)) (c.B.swS rfl))
  (s_seq (s_asg (ws := []) (r_bin f_add (r_var (i := 3) c.B rfl rfl) r_int) (g_sub c.hu1 (r_var (i := 0) c.B rfl rfl) r_str) gSubF_ok)
  (s_seq (s_set (i := 5) c.B rfl rfl (r_bin f_add (r_bin f_mod (r_ix c.hu1 (r_var (i := 4) c.B rfl rfl) (r_bin f_mod (r_var (i := 3) c.B rfl rfl) (r_callB c.B f_len rfl G.f_len bt_len (l_cons (r_var (i := 4) c.B rfl rfl) l_nil))) (by intro _ _; rfl)) r_int) (r_bin f_mul r_int (r_bin f_add (r_var (i := 3) c.B rfl rfl) r_int))))
  (s_seq (s_set (i := 5) c.B rfl rfl (r_bin f_mod (r_bin f_mul (r_bin f_mod (r_var (i := 5) c.B rfl rfl) r_int) (r_bin f_add (r_bin f_mod (r_var (i := 5) c.B rfl rfl) r_int) r_int)) r_int))
  (s_seq (s_set (i := 5) c.B rfl rfl (r_bin f_mod (r_bin f_mul (r_bin f_mod (r_bin f_add (r_bin f_mul (r_var (i := 5) c.B rfl rfl) (r_var (i := 5) c.B rfl rfl)) (r_bin f_mul r_int (r_var (i := 3) c.B rfl rfl))) r_int) r_int) r_int))
  (s_one (s_ret (r_bin f_mod (r_bin f_div (r_var (i := 5) c.B rfl rfl) r_int) (r_var (i := 1) c.B rfl rfl))))))))))
theorem ok__law_one {X : Cx} {W : WX} {k : Nat} {C : CallT} (G : Gs X.K X.mg) (Q : Gc X.prog X.w X.K X.mg X.base k C) (c : Cy X W N__law_one sc__law_one k) (po : PassesOwn (model X.prog X.w) X.A X.env X.xe) (fnc : ∀ x, X.fn x = true) : FSs X W (defBody st__law_one) (b__law_one C) :=
  (s_one (s_ret (r_ix c.hu1 (r_var (i := 1) c.B rfl rfl) (r_call c.B Q.c__law_draw c.rm c.tk rfl G.d__law_draw (l_cons (r_var (i := 0) c.B rfl rfl) (l_cons (r_callB c.B f_len rfl G.f_len bt_len (l_cons (r_var (i := 1) c.B rfl rfl) l_nil)) l_nil))) (by intro _ _; rfl))))
theorem ok__law_lamp {X : Cx} {W : WX} {k : Nat} {C : CallT} (G : Gs X.K X.mg) (Q : Gc X.prog X.w X.K X.mg X.base k C) (c : Cy X W N__law_lamp sc__law_lamp k) (po : PassesOwn (model X.prog X.w) X.A X.env X.xe) (fnc : ∀ x, X.fn x = true) : FSs X W (defBody st__law_lamp) (b__law_lamp C) :=
  (s_seq (s_set (i := 2) c.B rfl rfl (r_G (r_call c.B Q.c__law_one c.rm c.tk rfl G.d__law_one (l_cons (r_var (i := 0) c.B rfl rfl) (l_cons (r_lst (l_cons r_int (l_cons r_int (l_cons (r_bin f_add r_int (r_call c.B Q.c__law_draw c.rm c.tk rfl G.d__law_draw (l_cons (r_var (i := 0) c.B rfl rfl) (l_cons r_int l_nil)))) (l_cons (r_bin f_add r_int (r_call c.B Q.c__law_draw c.rm c.tk rfl G.d__law_draw (l_cons (r_var (i := 0) c.B rfl rfl) (l_cons r_int l_nil)))) (l_cons (r_bin f_add r_int (r_call c.B Q.c__law_draw c.rm c.tk rfl G.d__law_draw (l_cons (r_var (i := 0) c.B rfl rfl) (l_cons (r_var (i := 1) c.B rfl rfl) l_nil)))) (l_cons (r_var (i := 1) c.B rfl rfl) l_nil))))))) l_nil)))))
  (s_one (s_ret (r_tup (l_cons (r_G (r_call c.B Q.c__law_one c.rm c.tk rfl G.d__law_one (l_cons (r_var (i := 0) c.B rfl rfl) (l_cons (r_lst (l_cons r_str (l_cons r_str l_nil))) l_nil)))) (l_cons (r_var (i := 2) c.B rfl rfl) l_nil))))))
theorem ok__law_far_runs {X : Cx} {W : WX} {k : Nat} {C : CallT} (G : Gs X.K X.mg) (Q : Gc X.prog X.w X.K X.mg X.base k C) (c : Cy X W N__law_far_runs sc__law_far_runs k) (po : PassesOwn (model X.prog X.w) X.A X.env X.xe) (fnc : ∀ x, X.fn x = true) : FSs X W (defBody st__law_far_runs) (b__law_far_runs C) :=
  (s_seq (s_par3 (i := 2) (j := 3) (l := 4) c.B rfl rfl rfl (by decide) (by decide) (by decide) rfl rfl rfl (l_cons (r_lst l_nil) (l_cons (r_G (r_call c.B Q.c__law_one c.rm c.tk rfl G.d__law_one (l_cons (r_var (i := 0) c.B rfl rfl) (l_cons (r_lst (l_cons r_int (l_cons (r_call c.B Q.c__law_draw c.rm c.tk rfl G.d__law_draw (l_cons (r_var (i := 0) c.B rfl rfl) (l_cons r_int l_nil))) (l_cons (r_call c.B Q.c__law_draw c.rm c.tk rfl G.d__law_draw (l_cons (r_var (i := 0) c.B rfl rfl) (l_cons (r_bin f_pow r_int r_int) l_nil))) l_nil)))) l_nil)))) (l_cons (r_bin f_pow r_int r_int) l_nil))) rfl)
  (s_seq (s_for (ws := [5]) po c.B (i_rg1 c.B rfl G.f_range (l_cons (r_call c.B Q.c__law_draw c.rm c.tk rfl G.d__law_draw (l_cons (r_var (i := 0) c.B rfl rfl) (l_cons (r_bin f_add (r_var (i := 1) c.B rfl rfl) r_int) l_nil))) l_nil)) (g_nm (i := 5) c.B rfl rfl (by decide)) (s_seq (s_set (i := 6) c.B rfl rfl (r_G (r_call c.B Q.c__law_one c.rm c.tk rfl G.d__law_one (l_cons (r_var (i := 0) c.B rfl rfl) (l_cons (r_lst (l_cons r_int (l_cons r_int (l_cons (r_bin f_add r_int (r_call c.B Q.c__law_draw c.rm c.tk rfl G.d__law_draw (l_cons (r_var (i := 0) c.B rfl rfl) (l_cons r_int l_nil)))) (l_cons (r_bin f_add r_int (r_call c.B Q.c__law_draw c.rm c.tk rfl G.d__law_draw (l_cons (r_var (i := 0) c.B rfl rfl) (l_cons (r_bin f_pow r_int r_int) l_nil)))) (l_cons (r_bin f_pow r_int r_int) l_nil)))))) l_nil)))))
  (s_seq (s_set (i := 7) c.B rfl rfl (r_bin f_add r_int (r_callB c.B (f_min2 c.B.calm) rfl G.f_min bt_min (l_cons (r_bin f_div (r_bin f_sub (r_var (i := 4) c.B rfl rfl) (r_var (i := 3) c.B rfl rfl)) (r_var (i := 6) c.B rfl rfl)) (l_cons (r_G (r_call c.B Q.c__law_one c.rm c.tk rfl G.d__law_one (l_cons (r_var (i := 0) c.B rfl rfl) (l_cons (r_lst (l_cons r_int (l_cons r_int (l_cons (r_call c.B Q.c__law_draw c.rm c.tk rfl G.d__law_draw (l_cons (r_var (i := 0) c.B rfl rfl) (l_cons r_int l_nil))) (l_cons (r_call c.B Q.c__law_draw c.rm c.tk rfl G.d__law_draw (l_cons (r_var (i := 0) c.B rfl rfl) (l_cons (r_bin f_pow r_int r_int) l_nil))) (l_cons (r_var (i := 4) c.B rfl rfl) l_nil)))))) l_nil)))) l_nil)))))
  (s_one (s_if (t_cmp f_le rfl (r_var (i := 3) c.B rfl rfl) (r_var (i := 4) c.B rfl rfl)) (s_seq (s_ex (r_m F.plainAttrs_list F.slot_list_append F.type_list_append m_append (r_var (i := 2) c.B rfl rfl) (l_cons (r_tup (l_cons (r_var (i := 3) c.B rfl rfl) (l_cons (r_if (t_cmp f_gt rfl (r_var (i := 7) c.B rfl rfl) r_int) (r_var (i := 6) c.B rfl rfl) r_int) (l_cons (r_var (i := 7) c.B rfl rfl) l_nil)))) l_nil)))
  (s_seq (s_set (i := 8) c.B rfl rfl (r_G (r_call c.B Q.c__law_one c.rm c.tk rfl G.d__law_one (l_cons (r_var (i := 0) c.B rfl rfl) (l_cons (r_lst (l_cons r_int (l_cons r_int (l_cons (r_bin f_add r_int (r_call c.B Q.c__law_draw c.rm c.tk rfl G.d__law_draw (l_cons (r_var (i := 0) c.B rfl rfl) (l_cons r_int l_nil)))) (l_cons (r_bin f_add r_int (r_call c.B Q.c__law_draw c.rm c.tk rfl G.d__law_draw (l_cons (r_var (i := 0) c.B rfl rfl) (l_cons (r_bin f_pow r_int r_int) l_nil)))) l_nil))))) l_nil)))))
  (s_one (s_set (i := 3) c.B rfl rfl (r_bin f_add (r_bin f_add (r_var (i := 3) c.B rfl rfl) (r_bin f_mul (r_var (i := 6) c.B rfl rfl) (r_bin f_sub (r_var (i := 7) c.B rfl rfl) r_int))) (r_var (i := 8) c.B rfl rfl)))))) s_nil)))))
  (s_one (s_ret (r_callT c.B f_tup rfl G.f_tuple bt_tuple (l_cons (r_var (i := 2) c.B rfl rfl) l_nil))))))
theorem ok__law_log {X : Cx} {W : WX} {k : Nat} {C : CallT} (G : Gs X.K X.mg) (Q : Gc X.prog X.w X.K X.mg X.base k C) (c : Cy X W N__law_log sc__law_log k) (po : PassesOwn (model X.prog X.w) X.A X.env X.xe) (fnc : ∀ x, X.fn x = true) : FSs X W (defBody st__law_log) (b__law_log C) :=
  (s_seq (s_par (i := 3) (j := 4) c.B rfl rfl (by decide) rfl rfl (l_cons (r_lst l_nil) (l_cons (r_G (r_call c.B Q.c__law_one c.rm c.tk rfl G.d__law_one (l_cons (r_var (i := 0) c.B rfl rfl) (l_cons (r_lst (l_cons r_int (l_cons r_int (l_cons (r_call c.B Q.c__law_draw c.rm c.tk rfl G.d__law_draw (l_cons (r_var (i := 0) c.B rfl rfl) (l_cons (r_var (i := 2) c.B rfl rfl) l_nil))) l_nil)))) l_nil)))) l_nil)) (c.B.swS rfl))
  (s_seq (s_for (ws := [5]) po c.B (i_rg1 c.B rfl G.f_range (l_cons (r_call c.B Q.c__law_draw c.rm c.tk rfl G.d__law_draw (l_cons (r_var (i := 0) c.B rfl rfl) (l_cons (r_bin f_add (r_var (i := 1) c.B rfl rfl) r_int) l_nil))) l_nil)) (g_nm (i := 5) c.B rfl rfl (by decide)) (s_seq (s_set (i := 6) c.B rfl rfl (r_G (r_call c.B Q.c__law_one c.rm c.tk rfl G.d__law_one (l_cons (r_var (i := 0) c.B rfl rfl) (l_cons (r_lst (l_cons r_int (l_cons r_int (l_cons (r_bin f_add r_int (r_call c.B Q.c__law_draw c.rm c.tk rfl G.d__law_draw (l_cons (r_var (i := 0) c.B rfl rfl) (l_cons r_int l_nil)))) (l_cons (r_bin f_add r_int (r_call c.B Q.c__law_draw c.rm c.tk rfl G.d__law_draw (l_cons (r_var (i := 0) c.B rfl rfl) (l_cons (r_var (i := 2) c.B rfl rfl) l_nil)))) l_nil))))) l_nil)))))
  (s_seq (s_ex (r_m F.plainAttrs_list F.slot_list_append F.type_list_append m_append (r_var (i := 3) c.B rfl rfl) (l_cons (r_tup (l_cons (r_var (i := 4) c.B rfl rfl) (l_cons (r_bin f_add (r_var (i := 4) c.B rfl rfl) (r_var (i := 6) c.B rfl rfl)) l_nil))) l_nil)))
  (s_one (s_set (i := 4) c.B rfl rfl (r_bin f_add (r_bin f_add (r_var (i := 4) c.B rfl rfl) (r_var (i := 6) c.B rfl rfl)) (r_G (r_call c.B Q.c__law_one c.rm c.tk rfl G.d__law_one (l_cons (r_var (i := 0) c.B rfl rfl) (l_cons (r_lst (l_cons r_int (l_cons r_int (l_cons (r_bin f_add r_int (r_call c.B Q.c__law_draw c.rm c.tk rfl G.d__law_draw (l_cons (r_var (i := 0) c.B rfl rfl) (l_cons r_int l_nil)))) (l_cons (r_bin f_add r_int (r_call c.B Q.c__law_draw c.rm c.tk rfl G.d__law_draw (l_cons (r_var (i := 0) c.B rfl rfl) (l_cons (r_var (i := 2) c.B rfl rfl) l_nil)))) l_nil))))) l_nil))))))))))
  (s_one (s_ret (r_tmpT c.B c_tup rfl G.f_tuple bt_tuple (c_comp (own := [("part", 7)]) c.B (i_seq (r_var (i := 3) c.B rfl rfl)) ⟨rfl, by decide +kernel, by decide +kernel, by decide +kernel, by decide +kernel⟩ (fun s H C cl fp => have c1 := c.blk _ s H C cl fp; (g_nm (i := 7) c1.B rfl rfl (by decide))) (fun s H C cl fp => have c1 := c.blk _ s H C cl fp; (ts_one (t_cmp f_le rfl (r_ix c1.hu1 (r_var (i := 7) c1.B rfl rfl) r_int (by intro _ _; rfl)) (r_bin f_mul r_int (r_bin f_pow r_int r_int))))) (fun s H C cl fp => have c1 := c.blk _ s H C cl fp; (r_var (i := 7) c1.B rfl rfl))))))))
theorem ok__law_lamps_text {X : Cx} {W : WX} {k : Nat} {C : CallT} (G : Gs X.K X.mg) (Q : Gc X.prog X.w X.K X.mg X.base k C) (c : Cy X W N__law_lamps_text sc__law_lamps_text k) (po : PassesOwn (model X.prog X.w) X.A X.env X.xe) (fnc : ∀ x, X.fn x = true) : FSs X W (defBody st__law_lamps_text) (b__law_lamps_text C) :=
  (s_one (s_ret (r_if (t_cmp (f_ne c.hu) rfl (r_var (i := 0) c.B rfl rfl) (r_tup l_nil)) (r_join r_str (c_comp (own := [("lamp", 1)]) c.B (i_seq (r_var (i := 0) c.B rfl rfl)) ⟨rfl, by decide +kernel, by decide +kernel, by decide +kernel, by decide +kernel⟩ (fun s H C cl fp => have c1 := c.blk _ s H C cl fp; (g_nm (i := 1) c1.B rfl rfl (by decide))) (fun s H C cl fp => ts_nil) (fun s H C cl fp => have c1 := c.blk _ s H C cl fp; (r_bin f_add (r_bin f_add (r_ix c1.hu1 (r_var (i := 1) c1.B rfl rfl) r_int (by intro _ _; rfl)) r_str) (r_callT c1.B f_str rfl G.f_str bt_str (l_cons (r_ix c1.hu1 (r_var (i := 1) c1.B rfl rfl) r_int (by intro _ _; rfl)) l_nil)))))) r_str)))
theorem ok__law_log_text {X : Cx} {W : WX} {k : Nat} {C : CallT} (G : Gs X.K X.mg) (Q : Gc X.prog X.w X.K X.mg X.base k C) (c : Cy X W N__law_log_text sc__law_log_text k) (po : PassesOwn (model X.prog X.w) X.A X.env X.xe) (fnc : ∀ x, X.fn x = true) : FSs X W (defBody st__law_log_text) (b__law_log_text C) :=
  (s_one (s_ret (r_if (t_cmp (f_ne c.hu) rfl (r_var (i := 0) c.B rfl rfl) (r_tup l_nil)) (r_join r_str (c_comp (own := [("on", 1), ("off", 2)]) c.B (i_seq (r_var (i := 0) c.B rfl rfl)) ⟨rfl, by decide +kernel, by decide +kernel, by decide +kernel, by decide +kernel⟩ (fun s H C cl fp => have c1 := c.blk _ s H C cl fp; (g_tup c1.B (gs_cons (g_nm (i := 1) c1.B rfl rfl (by decide)) (gs_cons (g_nm (i := 2) c1.B rfl rfl (by decide)) gs_nil)))) (fun s H C cl fp => ts_nil) (fun s H C cl fp => have c1 := c.blk _ s H C cl fp; (r_bin f_add (r_bin f_add (r_callT c1.B f_str rfl G.f_str bt_str (l_cons (r_var (i := 1) c1.B rfl rfl) l_nil)) r_str) (r_callT c1.B f_str rfl G.f_str bt_str (l_cons (r_var (i := 2) c1.B rfl rfl) l_nil)))))) r_str)))
theorem ok__law_runs_text {X : Cx} {W : WX} {k : Nat} {C : CallT} (G : Gs X.K X.mg) (Q : Gc X.prog X.w X.K X.mg X.base k C) (c : Cy X W N__law_runs_text sc__law_runs_text k) (po : PassesOwn (model X.prog X.w) X.A X.env X.xe) (fnc : ∀ x, X.fn x = true) : FSs X W (defBody st__law_runs_text) (b__law_runs_text C) :=
  (s_seq (s_set (i := 1) c.B rfl rfl (r_lst l_nil))
  (s_seq (s_for (ws := [2, 3, 4]) po c.B (i_seq (r_var (i := 0) c.B rfl rfl)) (g_tup c.B (gs_cons (g_nm (i := 2) c.B rfl rfl (by decide)) (gs_cons (g_nm (i := 3) c.B rfl rfl (by decide)) (gs_cons (g_nm (i := 4) c.B rfl rfl (by decide)) gs_nil)))) (s_one (s_ex (r_m F.plainAttrs_list F.slot_list_append F.type_list_append m_append (r_var (i := 1) c.B rfl rfl) (l_cons (r_bin f_add (r_callT c.B f_str rfl G.f_str bt_str (l_cons (r_var (i := 2) c.B rfl rfl) l_nil)) (r_if (t_cmp f_gt rfl (r_var (i := 4) c.B rfl rfl) r_int) (r_bin f_add (r_bin f_add (r_bin f_add r_str (r_callT c.B f_str rfl G.f_str bt_str (l_cons (r_var (i := 3) c.B rfl rfl) l_nil))) r_str) (r_callT c.B f_str rfl G.f_str bt_str (l_cons (r_var (i := 4) c.B rfl rfl) l_nil))) r_str)) l_nil)))))
  (s_one (s_ret (r_if (t_cmp (f_ne c.hu) rfl (r_var (i := 0) c.B rfl rfl) (r_tup l_nil)) (r_m F.plainAttrs_str F.slot_str_join F.type_str_join m_join r_str (l_cons (r_var (i := 1) c.B rfl rfl) l_nil)) r_str)))))
theorem ok_law {X : Cx} {W : WX} {k : Nat} {C : CallT} (G : Gs X.K X.mg) (Q : Gc X.prog X.w X.K X.mg X.base k C) (c : Cy X W N_law sc_law k) (po : PassesOwn (model X.prog X.w) X.A X.env X.xe) (fnc : ∀ x, X.fn x = true) : FSs X W (defBody st_law) (b_law C) :=
  (s_seq (s_setC (i := 1) c.B rfl rfl (fnc _) (r_call c.B Q.c__law_opened c.rm c.tk rfl G.d__law_opened (l_cons (r_var (i := 0) c.B rfl rfl) l_nil)))
  (s_seq (s_for (ws := [2]) po c.B (i_rg1 c.B rfl G.f_range (l_cons r_int l_nil)) (g_nm (i := 2) c.B rfl rfl (by decide)) (s_seq (s_set (i := 3) c.B rfl rfl (r_tmpT c.B c_tup rfl G.f_tuple bt_tuple (c_comp (own := [("k", 9)]) c.B (i_rg1 c.B rfl G.f_range (l_cons (r_call c.B Q.c__law_draw c.rm c.tk rfl G.d__law_draw (l_cons (r_var (i := 1) c.B rfl rfl) (l_cons r_int l_nil))) l_nil)) ⟨rfl, by decide +kernel, by decide +kernel, by decide +kernel, by decide +kernel⟩ (fun s H C cl fp => have c1 := c.blk _ s H C cl fp; (g_nm (i := 9) c1.B rfl rfl (by decide))) (fun s H C cl fp => ts_nil) (fun s H C cl fp => have c1 := c.blk _ s H C cl fp; (r_call c1.B Q.c__law_lamp c1.rm c1.tk rfl G.d__law_lamp (l_cons (r_var (i := 1) c1.B rfl rfl) (l_cons (r_bin f_pow r_int r_int) l_nil)))))))
  (s_seq (s_par (i := 4) (j := 5) c.B rfl rfl (by decide) rfl rfl (l_cons (r_G (r_call c.B Q.c__law_log c.rm c.tk rfl G.d__law_log (l_cons (r_var (i := 1) c.B rfl rfl) (l_cons r_int (l_cons (r_G (r_call c.B Q.c__law_one c.rm c.tk rfl G.d__law_one (l_cons (r_var (i := 1) c.B rfl rfl) (l_cons (r_lst (l_cons r_int (l_cons (r_bin f_pow r_int r_int) l_nil))) l_nil)))) l_nil))))) (l_cons (r_call c.B Q.c__law_far_runs c.rm c.tk rfl G.d__law_far_runs (l_cons (r_var (i := 1) c.B rfl rfl) (l_cons r_int l_nil))) l_nil)) (c.B.swS rfl))
  (s_seq (s_set (i := 6) c.B rfl rfl (r_call c.B Q.c__law_lamps_text c.rm c.tk rfl G.d__law_lamps_text (l_cons (r_var (i := 3) c.B rfl rfl) l_nil)))
  (s_seq (s_if (t_cmp (f_ne c.hu) rfl (r_callB c.B (f_repr c.hu c.rm.quiet) rfl G.f_repr bt_repr (l_cons (r_lst (l_cons (r_call c.B Q.c_lamps_text c.rm c.tk rfl G.d_lamps_text (l_cons (r_var (i := 3) c.B rfl rfl) l_nil)) (l_cons (r_call c.B Q.c_parse_lamps c.rm c.tk rfl G.d_parse_lamps (l_cons (r_var (i := 6) c.B rfl rfl) l_nil)) l_nil))) l_nil)) (r_callB c.B (f_repr c.hu c.rm.quiet) rfl G.f_repr bt_repr (l_cons (r_lst (l_cons (r_var (i := 6) c.B rfl rfl) (l_cons (r_var (i := 3) c.B rfl rfl) l_nil))) l_nil))) (s_one (s_ret r_bl)) s_nil)
  (s_seq (s_set (i := 6) c.B rfl rfl (r_call c.B Q.c__law_log_text c.rm c.tk rfl G.d__law_log_text (l_cons (r_var (i := 4) c.B rfl rfl) l_nil)))
  (s_seq (s_if (t_cmp (f_ne c.hu) rfl (r_callB c.B (f_repr c.hu c.rm.quiet) rfl G.f_repr bt_repr (l_cons (r_lst (l_cons (r_call c.B Q.c_log_text c.rm c.tk rfl G.d_log_text (l_cons (r_var (i := 4) c.B rfl rfl) l_nil)) (l_cons (r_call c.B Q.c_parse_log c.rm c.tk rfl G.d_parse_log (l_cons (r_var (i := 6) c.B rfl rfl) l_nil)) l_nil))) l_nil)) (r_callB c.B (f_repr c.hu c.rm.quiet) rfl G.f_repr bt_repr (l_cons (r_lst (l_cons (r_var (i := 6) c.B rfl rfl) (l_cons (r_var (i := 4) c.B rfl rfl) l_nil))) l_nil))) (s_one (s_ret r_bl)) s_nil)
  (s_seq (s_set (i := 6) c.B rfl rfl (r_call c.B Q.c__law_runs_text c.rm c.tk rfl G.d__law_runs_text (l_cons (r_var (i := 5) c.B rfl rfl) l_nil)))
  (s_one (s_if (t_cmp (f_ne c.hu) rfl (r_callB c.B (f_repr c.hu c.rm.quiet) rfl G.f_repr bt_repr (l_cons (r_lst (l_cons (r_call c.B Q.c_motions_text c.rm c.tk rfl G.d_motions_text (l_cons (r_var (i := 5) c.B rfl rfl) l_nil)) (l_cons (r_call c.B Q.c_parse_motions c.rm c.tk rfl G.d_parse_motions (l_cons (r_var (i := 6) c.B rfl rfl) l_nil)) l_nil))) l_nil)) (r_callB c.B (f_repr c.hu c.rm.quiet) rfl G.f_repr bt_repr (l_cons (r_lst (l_cons (r_var (i := 6) c.B rfl rfl) (l_cons (r_var (i := 5) c.B rfl rfl) l_nil))) l_nil))) (s_one (s_ret r_bl)) s_nil))))))))))
  (s_seq (s_setC (i := 7) c.B rfl rfl (fnc _) (r_bin f_add r_int (r_call c.B Q.c__law_draw c.rm c.tk rfl G.d__law_draw (l_cons (r_var (i := 1) c.B rfl rfl) (l_cons r_int l_nil)))))
  (s_seq (s_set (i := 8) c.B rfl rfl (r_tmpT c.B c_tup rfl G.f_tuple bt_tuple (c_comp (own := [("k", 9)]) c.B (i_rg1 c.B rfl G.f_range (l_cons r_int l_nil)) ⟨rfl, by decide +kernel, by decide +kernel, by decide +kernel, by decide +kernel⟩ (fun s H C cl fp => have c1 := c.blk _ s H C cl fp; (g_nm (i := 9) c1.B rfl rfl (by decide))) (fun s H C cl fp => ts_nil) (fun s H C cl fp => have c1 := c.blk _ s H C cl fp; (r_if (t_cmp f_gt rfl (r_bin f_mod (r_var (i := 9) c1.B rfl rfl) r_int) r_int) (r_tup (l_cons (r_bin f_mul r_int (r_var (i := 9) c1.B rfl rfl)) (l_cons (r_var (i := 7) c1.B rfl rfl) (l_cons (r_bin f_add r_int (r_bin f_mod (r_var (i := 9) c1.B rfl rfl) r_int)) l_nil)))) (r_tup (l_cons (r_bin f_mul r_int (r_var (i := 9) c1.B rfl rfl)) (l_cons r_int (l_cons r_int l_nil)))))))))
  (s_one (s_ret (r_and (r_cmp (f_eq c.hu) rfl (r_call c.B Q.c_parse_motions c.rm c.tk rfl G.d_parse_motions (l_cons (r_call c.B Q.c__law_runs_text c.rm c.tk rfl G.d__law_runs_text (l_cons (r_var (i := 8) c.B rfl rfl) l_nil)) l_nil)) (r_var (i := 8) c.B rfl rfl)) (r_one (r_cmp (f_eq c.hu) rfl (r_call c.B Q.c_motions_text c.rm c.tk rfl G.d_motions_text (l_cons (r_var (i := 8) c.B rfl rfl) l_nil)) (r_call c.B Q.c__law_runs_text c.rm c.tk rfl G.d__law_runs_text (l_cons (r_var (i := 8) c.B rfl rfl) l_nil)))))))))))

/-! the program -/
noncomputable def pl : List (String × FnD) := [("is_integer", ⟨3, 3, b_is_integer⟩),
  ("is_minute", ⟨1, 1, b_is_minute⟩),
  ("is_lamp", ⟨1, 1, b_is_lamp⟩),
  ("end_of", ⟨1, 4, b_end_of⟩),
  ("is_run", ⟨1, 4, b_is_run⟩),
  ("is_stretch", ⟨1, 1, b_is_stretch⟩),
  ("read_integer", ⟨1, 2, b_read_integer⟩),
  ("read_pair", ⟨2, 4, b_read_pair⟩),
  ("listed", ⟨1, 1, b_listed⟩),
  ("lamps_text", ⟨1, 3, b_lamps_text⟩),
  ("log_text", ⟨1, 3, b_log_text⟩),
  ("run_text", ⟨1, 4, b_run_text⟩),
  ("motions_text", ⟨1, 2, b_motions_text⟩),
  ("words_of", ⟨1, 1, b_words_of⟩),
  ("read_lamp", ⟨1, 4, b_read_lamp⟩),
  ("parse_lamps", ⟨1, 5, b_parse_lamps⟩),
  ("parse_log", ⟨1, 6, b_parse_log⟩),
  ("read_run", ⟨1, 5, b_read_run⟩),
  ("parse_motions", ⟨1, 6, b_parse_motions⟩),
  ("_law_opened", ⟨1, 3, b__law_opened⟩),
  ("_law_draw", ⟨2, 6, b__law_draw⟩),
  ("_law_one", ⟨2, 2, b__law_one⟩),
  ("_law_lamp", ⟨2, 3, b__law_lamp⟩),
  ("_law_far_runs", ⟨2, 9, b__law_far_runs⟩),
  ("_law_log", ⟨3, 8, b__law_log⟩),
  ("_law_lamps_text", ⟨1, 2, b__law_lamps_text⟩),
  ("_law_log_text", ⟨1, 3, b__law_log_text⟩),
  ("_law_runs_text", ⟨1, 5, b__law_runs_text⟩),
  ("law", ⟨1, 10, b_law⟩)]
noncomputable def pr (x : String) : Option FnD := pl.lookup x
theorem fs_is_integer : FnScope N_is_integer ["value", "low", "high"] sc_is_integer := ⟨rfl, rfl, rfl, by decide +kernel, rfl, by decide +kernel, by decide +kernel⟩
theorem fs_is_minute : FnScope N_is_minute ["value"] sc_is_minute := ⟨rfl, rfl, rfl, by decide +kernel, rfl, by decide +kernel, by decide +kernel⟩
theorem fs_is_lamp : FnScope N_is_lamp ["value"] sc_is_lamp := ⟨rfl, rfl, rfl, by decide +kernel, rfl, by decide +kernel, by decide +kernel⟩
theorem fs_end_of : FnScope N_end_of ["run"] sc_end_of := ⟨rfl, rfl, rfl, by decide +kernel, rfl, by decide +kernel, by decide +kernel⟩
theorem fs_is_run : FnScope N_is_run ["value"] sc_is_run := ⟨rfl, rfl, rfl, by decide +kernel, rfl, by decide +kernel, by decide +kernel⟩
theorem fs_is_stretch : FnScope N_is_stretch ["value"] sc_is_stretch := ⟨rfl, rfl, rfl, by decide +kernel, rfl, by decide +kernel, by decide +kernel⟩
theorem fs_read_integer : FnScope N_read_integer ["word"] sc_read_integer := ⟨rfl, rfl, rfl, by decide +kernel, rfl, by decide +kernel, by decide +kernel⟩
theorem fs_read_pair : FnScope N_read_pair ["word", "sign"] sc_read_pair := ⟨rfl, rfl, rfl, by decide +kernel, rfl, by decide +kernel, by decide +kernel⟩
theorem fs_listed : FnScope N_listed ["words"] sc_listed := ⟨rfl, rfl, rfl, by decide +kernel, rfl, by decide +kernel, by decide +kernel⟩
theorem fs_lamps_text : FnScope N_lamps_text ["lamps"] sc_lamps_text := ⟨rfl, rfl, rfl, by decide +kernel, rfl, by decide +kernel, by decide +kernel⟩
theorem fs_log_text : FnScope N_log_text ["log"] sc_log_text := ⟨rfl, rfl, rfl, by decide +kernel, rfl, by decide +kernel, by decide +kernel⟩
theorem fs_run_text : FnScope N_run_text ["run"] sc_run_text := ⟨rfl, rfl, rfl, by decide +kernel, rfl, by decide +kernel, by decide +kernel⟩
theorem fs_motions_text : FnScope N_motions_text ["motions"] sc_motions_text := ⟨rfl, rfl, rfl, by decide +kernel, rfl, by decide +kernel, by decide +kernel⟩
theorem fs_words_of : FnScope N_words_of ["value"] sc_words_of := ⟨rfl, rfl, rfl, by decide +kernel, rfl, by decide +kernel, by decide +kernel⟩
theorem fs_read_lamp : FnScope N_read_lamp ["word"] sc_read_lamp := ⟨rfl, rfl, rfl, by decide +kernel, rfl, by decide +kernel, by decide +kernel⟩
theorem fs_parse_lamps : FnScope N_parse_lamps ["value"] sc_parse_lamps := ⟨rfl, rfl, rfl, by decide +kernel, rfl, by decide +kernel, by decide +kernel⟩
theorem fs_parse_log : FnScope N_parse_log ["value"] sc_parse_log := ⟨rfl, rfl, rfl, by decide +kernel, rfl, by decide +kernel, by decide +kernel⟩
theorem fs_read_run : FnScope N_read_run ["word"] sc_read_run := ⟨rfl, rfl, rfl, by decide +kernel, rfl, by decide +kernel, by decide +kernel⟩
theorem fs_parse_motions : FnScope N_parse_motions ["value"] sc_parse_motions := ⟨rfl, rfl, rfl, by decide +kernel, rfl, by decide +kernel, by decide +kernel⟩
theorem fs__law_opened : FnScope N__law_opened ["script"] sc__law_opened := ⟨rfl, rfl, rfl, by decide +kernel, rfl, by decide +kernel, by decide +kernel⟩
theorem fs__law_draw : FnScope N__law_draw ["pot", "many"] sc__law_draw := ⟨rfl, rfl, rfl, by decide +kernel, rfl, by decide +kernel, by decide +kernel⟩
theorem fs__law_one : FnScope N__law_one ["pot", "items"] sc__law_one := ⟨rfl, rfl, rfl, by decide +kernel, rfl, by decide +kernel, by decide +kernel⟩
theorem fs__law_lamp : FnScope N__law_lamp ["pot", "great"] sc__law_lamp := ⟨rfl, rfl, rfl, by decide +kernel, rfl, by decide +kernel, by decide +kernel⟩
theorem fs__law_far_runs : FnScope N__law_far_runs ["pot", "upto"] sc__law_far_runs := ⟨rfl, rfl, rfl, by decide +kernel, rfl, by decide +kernel, by decide +kernel⟩
theorem fs__law_log : FnScope N__law_log ["pot", "upto", "great"] sc__law_log := ⟨rfl, rfl, rfl, by decide +kernel, rfl, by decide +kernel, by decide +kernel⟩
theorem fs__law_lamps_text : FnScope N__law_lamps_text ["lamps"] sc__law_lamps_text := ⟨rfl, rfl, rfl, by decide +kernel, rfl, by decide +kernel, by decide +kernel⟩
theorem fs__law_log_text : FnScope N__law_log_text ["log"] sc__law_log_text := ⟨rfl, rfl, rfl, by decide +kernel, rfl, by decide +kernel, by decide +kernel⟩
theorem fs__law_runs_text : FnScope N__law_runs_text ["runs"] sc__law_runs_text := ⟨rfl, rfl, rfl, by decide +kernel, rfl, by decide +kernel, by decide +kernel⟩
theorem fs_law : FnScope N_law ["script"] sc_law := ⟨rfl, rfl, rfl, by decide +kernel, rfl, by decide +kernel, by decide +kernel⟩
theorem pr_is_integer : pr "is_integer" = some ⟨3, 3, b_is_integer⟩ := rfl
theorem pr_is_minute : pr "is_minute" = some ⟨1, 1, b_is_minute⟩ := rfl
theorem pr_is_lamp : pr "is_lamp" = some ⟨1, 1, b_is_lamp⟩ := rfl
theorem pr_end_of : pr "end_of" = some ⟨1, 4, b_end_of⟩ := rfl
theorem pr_is_run : pr "is_run" = some ⟨1, 4, b_is_run⟩ := rfl
theorem pr_is_stretch : pr "is_stretch" = some ⟨1, 1, b_is_stretch⟩ := rfl
theorem pr_read_integer : pr "read_integer" = some ⟨1, 2, b_read_integer⟩ := rfl
theorem pr_read_pair : pr "read_pair" = some ⟨2, 4, b_read_pair⟩ := rfl
theorem pr_listed : pr "listed" = some ⟨1, 1, b_listed⟩ := rfl
theorem pr_lamps_text : pr "lamps_text" = some ⟨1, 3, b_lamps_text⟩ := rfl
theorem pr_log_text : pr "log_text" = some ⟨1, 3, b_log_text⟩ := rfl
theorem pr_run_text : pr "run_text" = some ⟨1, 4, b_run_text⟩ := rfl
theorem pr_motions_text : pr "motions_text" = some ⟨1, 2, b_motions_text⟩ := rfl
theorem pr_words_of : pr "words_of" = some ⟨1, 1, b_words_of⟩ := rfl
theorem pr_read_lamp : pr "read_lamp" = some ⟨1, 4, b_read_lamp⟩ := rfl
theorem pr_parse_lamps : pr "parse_lamps" = some ⟨1, 5, b_parse_lamps⟩ := rfl
theorem pr_parse_log : pr "parse_log" = some ⟨1, 6, b_parse_log⟩ := rfl
theorem pr_read_run : pr "read_run" = some ⟨1, 5, b_read_run⟩ := rfl
theorem pr_parse_motions : pr "parse_motions" = some ⟨1, 6, b_parse_motions⟩ := rfl
theorem pr__law_opened : pr "_law_opened" = some ⟨1, 3, b__law_opened⟩ := rfl
theorem pr__law_draw : pr "_law_draw" = some ⟨2, 6, b__law_draw⟩ := rfl
theorem pr__law_one : pr "_law_one" = some ⟨2, 2, b__law_one⟩ := rfl
theorem pr__law_lamp : pr "_law_lamp" = some ⟨2, 3, b__law_lamp⟩ := rfl
theorem pr__law_far_runs : pr "_law_far_runs" = some ⟨2, 9, b__law_far_runs⟩ := rfl
theorem pr__law_log : pr "_law_log" = some ⟨3, 8, b__law_log⟩ := rfl
theorem pr__law_lamps_text : pr "_law_lamps_text" = some ⟨1, 2, b__law_lamps_text⟩ := rfl
theorem pr__law_log_text : pr "_law_log_text" = some ⟨1, 3, b__law_log_text⟩ := rfl
theorem pr__law_runs_text : pr "_law_runs_text" = some ⟨1, 5, b__law_runs_text⟩ := rfl
theorem pr_law : pr "law" = some ⟨1, 10, b_law⟩ := rfl
def dd (x : String) (i : Nat) : He.DefD := ⟨(Str.ofString x, none), Str.ofString x, Str.ofString x, defArgs (top i), defBody (top i), defScope (top i), [], []⟩
def fn : List He.DefD := [dd "is_integer" 11, dd "is_minute" 12, dd "is_lamp" 13, dd "end_of" 14, dd "is_run" 15, dd "is_stretch" 16, dd "read_integer" 21, dd "read_pair" 22, dd "listed" 23, dd "lamps_text" 24, dd "log_text" 25, dd "run_text" 26, dd "motions_text" 27, dd "words_of" 28, dd "read_lamp" 29, dd "parse_lamps" 30, dd "parse_log" 31, dd "read_run" 32, dd "parse_motions" 33, dd "_law_opened" 35, dd "_law_draw" 36, dd "_law_one" 37, dd "_law_lamp" 38, dd "_law_far_runs" 39, dd "_law_log" 40, dd "_law_lamps_text" 41, dd "_law_log_text" 42, dd "_law_runs_text" 43, dd "law" 44]
def fa : List He.Fa := [.str "DIGITS" "0123456789", .str "HOLD" "hold", .int "LIMIT" 2000000000, .int "LONGEST" 20, .int "MAX_LAMPS" 6, .int "MAX_MINUTE" 1000000000, .int "MAX_RUNS" 360, .int "MAX_STRETCHES" 60, .str "NONE" "none", .str "PULSE" "pulse", .free "abs", .free "all", .free "bool", .free "enumerate", .free "int", .free "isinstance", .free "len", .free "min", .free "range", .free "repr", .free "str", .free "tuple", .glo "is_integer", .glo "is_minute", .glo "is_lamp", .glo "end_of", .glo "is_run", .glo "is_stretch", .glo "read_integer", .glo "read_pair", .glo "listed", .glo "lamps_text", .glo "log_text", .glo "run_text", .glo "motions_text", .glo "words_of", .glo "read_lamp", .glo "parse_lamps", .glo "parse_log", .glo "read_run", .glo "parse_motions", .glo "_law_opened", .glo "_law_draw", .glo "_law_one", .glo "_law_lamp", .glo "_law_far_runs", .glo "_law_log", .glo "_law_lamps_text", .glo "_law_log_text", .glo "_law_runs_text", .glo "law"]
theorem gs_of {K : PySem.W.Frag} {h : Heap} {mg : Str → Option Value} (X : K.In h) (G : h.Ns mainGlobals mg) (c : He.SaysD fa fn K) : Gs K mg := ⟨
  He.str_ok X G (c.fact 0 (f := .str "DIGITS" "0123456789") rfl),
  He.str_ok X G (c.fact 1 (f := .str "HOLD" "hold") rfl),
  He.int_ok X G (c.fact 2 (f := .int "LIMIT" 2000000000) rfl),
  He.int_ok X G (c.fact 3 (f := .int "LONGEST" 20) rfl),
  He.int_ok X G (c.fact 4 (f := .int "MAX_LAMPS" 6) rfl),
  He.int_ok X G (c.fact 5 (f := .int "MAX_MINUTE" 1000000000) rfl),
  He.int_ok X G (c.fact 6 (f := .int "MAX_RUNS" 360) rfl),
  He.int_ok X G (c.fact 7 (f := .int "MAX_STRETCHES" 60) rfl),
  He.str_ok X G (c.fact 8 (f := .str "NONE" "none") rfl),
  He.str_ok X G (c.fact 9 (f := .str "PULSE" "pulse") rfl),
  He.free_ok X G (c.fact 10 (f := .free "abs") rfl),
  He.free_ok X G (c.fact 11 (f := .free "all") rfl),
  He.free_ok X G (c.fact 12 (f := .free "bool") rfl),
  He.free_ok X G (c.fact 13 (f := .free "enumerate") rfl),
  He.free_ok X G (c.fact 14 (f := .free "int") rfl),
  He.free_ok X G (c.fact 15 (f := .free "isinstance") rfl),
  He.free_ok X G (c.fact 16 (f := .free "len") rfl),
  He.free_ok X G (c.fact 17 (f := .free "min") rfl),
  He.free_ok X G (c.fact 18 (f := .free "range") rfl),
  He.free_ok X G (c.fact 19 (f := .free "repr") rfl),
  He.free_ok X G (c.fact 20 (f := .free "str") rfl),
  He.free_ok X G (c.fact 21 (f := .free "tuple") rfl),
  He.glo_ok X G (c.fact 22 (f := .glo "is_integer") rfl),
  He.glo_ok X G (c.fact 23 (f := .glo "is_minute") rfl),
  He.glo_ok X G (c.fact 24 (f := .glo "is_lamp") rfl),
  He.glo_ok X G (c.fact 25 (f := .glo "end_of") rfl),
  He.glo_ok X G (c.fact 26 (f := .glo "is_run") rfl),
  He.glo_ok X G (c.fact 27 (f := .glo "is_stretch") rfl),
  He.glo_ok X G (c.fact 28 (f := .glo "read_integer") rfl),
  He.glo_ok X G (c.fact 29 (f := .glo "read_pair") rfl),
  He.glo_ok X G (c.fact 30 (f := .glo "listed") rfl),
  He.glo_ok X G (c.fact 31 (f := .glo "lamps_text") rfl),
  He.glo_ok X G (c.fact 32 (f := .glo "log_text") rfl),
  He.glo_ok X G (c.fact 33 (f := .glo "run_text") rfl),
  He.glo_ok X G (c.fact 34 (f := .glo "motions_text") rfl),
  He.glo_ok X G (c.fact 35 (f := .glo "words_of") rfl),
  He.glo_ok X G (c.fact 36 (f := .glo "read_lamp") rfl),
  He.glo_ok X G (c.fact 37 (f := .glo "parse_lamps") rfl),
  He.glo_ok X G (c.fact 38 (f := .glo "parse_log") rfl),
  He.glo_ok X G (c.fact 39 (f := .glo "read_run") rfl),
  He.glo_ok X G (c.fact 40 (f := .glo "parse_motions") rfl),
  He.glo_ok X G (c.fact 41 (f := .glo "_law_opened") rfl),
  He.glo_ok X G (c.fact 42 (f := .glo "_law_draw") rfl),
  He.glo_ok X G (c.fact 43 (f := .glo "_law_one") rfl),
  He.glo_ok X G (c.fact 44 (f := .glo "_law_lamp") rfl),
  He.glo_ok X G (c.fact 45 (f := .glo "_law_far_runs") rfl),
  He.glo_ok X G (c.fact 46 (f := .glo "_law_log") rfl),
  He.glo_ok X G (c.fact 47 (f := .glo "_law_lamps_text") rfl),
  He.glo_ok X G (c.fact 48 (f := .glo "_law_log_text") rfl),
  He.glo_ok X G (c.fact 49 (f := .glo "_law_runs_text") rfl),
  He.glo_ok X G (c.fact 50 (f := .glo "law") rfl)⟩
theorem gc_of {P : Program} {w : World} {K : PySem.W.Frag} {mg : Str → Option Value} {base : Heap} (G : Gs K mg) (c : He.SaysD fa fn K) : ∀ k, Gc P w K mg base k (run pr k)
  | 0 => ⟨
    (let ⟨_, F⟩ := c.def_ 0 (d := dd "is_integer" 11) rfl; ⟨_, ["value", "low", "high"], [], [], fnF_zero, F.bindsN fun _ _ _ _ _ _ us hl => match us, hl with | [_, _, _], _ => rfl, .nil, fun _ _ => .nil, F.kp⟩),
    (let ⟨_, F⟩ := c.def_ 1 (d := dd "is_minute" 12) rfl; ⟨_, ["value"], [], [], fnF_zero, F.bindsN fun _ _ _ _ _ _ us hl => match us, hl with | [_], _ => rfl, .nil, fun _ _ => .nil, F.kp⟩),
    (let ⟨_, F⟩ := c.def_ 2 (d := dd "is_lamp" 13) rfl; ⟨_, ["value"], [], [], fnF_zero, F.bindsN fun _ _ _ _ _ _ us hl => match us, hl with | [_], _ => rfl, .nil, fun _ _ => .nil, F.kp⟩),
    (let ⟨_, F⟩ := c.def_ 3 (d := dd "end_of" 14) rfl; ⟨_, ["run"], [], [], fnF_zero, F.bindsN fun _ _ _ _ _ _ us hl => match us, hl with | [_], _ => rfl, .nil, fun _ _ => .nil, F.kp⟩),
    (let ⟨_, F⟩ := c.def_ 4 (d := dd "is_run" 15) rfl; ⟨_, ["value"], [], [], fnF_zero, F.bindsN fun _ _ _ _ _ _ us hl => match us, hl with | [_], _ => rfl, .nil, fun _ _ => .nil, F.kp⟩),
    (let ⟨_, F⟩ := c.def_ 5 (d := dd "is_stretch" 16) rfl; ⟨_, ["value"], [], [], fnF_zero, F.bindsN fun _ _ _ _ _ _ us hl => match us, hl with | [_], _ => rfl, .nil, fun _ _ => .nil, F.kp⟩),
    (let ⟨_, F⟩ := c.def_ 6 (d := dd "read_integer" 21) rfl; ⟨_, ["word"], [], [], fnF_zero, F.bindsN fun _ _ _ _ _ _ us hl => match us, hl with | [_], _ => rfl, .nil, fun _ _ => .nil, F.kp⟩),
    (let ⟨_, F⟩ := c.def_ 7 (d := dd "read_pair" 22) rfl; ⟨_, ["word", "sign"], [], [], fnF_zero, F.bindsN fun _ _ _ _ _ _ us hl => match us, hl with | [_, _], _ => rfl, .nil, fun _ _ => .nil, F.kp⟩),
    (let ⟨_, F⟩ := c.def_ 8 (d := dd "listed" 23) rfl; ⟨_, ["words"], [], [], fnF_zero, F.bindsN fun _ _ _ _ _ _ us hl => match us, hl with | [_], _ => rfl, .nil, fun _ _ => .nil, F.kp⟩),
    (let ⟨_, F⟩ := c.def_ 9 (d := dd "lamps_text" 24) rfl; ⟨_, ["lamps"], [], [], fnF_zero, F.bindsN fun _ _ _ _ _ _ us hl => match us, hl with | [_], _ => rfl, .nil, fun _ _ => .nil, F.kp⟩),
    (let ⟨_, F⟩ := c.def_ 10 (d := dd "log_text" 25) rfl; ⟨_, ["log"], [], [], fnF_zero, F.bindsN fun _ _ _ _ _ _ us hl => match us, hl with | [_], _ => rfl, .nil, fun _ _ => .nil, F.kp⟩),
    (let ⟨_, F⟩ := c.def_ 11 (d := dd "run_text" 26) rfl; ⟨_, ["run"], [], [], fnF_zero, F.bindsN fun _ _ _ _ _ _ us hl => match us, hl with | [_], _ => rfl, .nil, fun _ _ => .nil, F.kp⟩),
    (let ⟨_, F⟩ := c.def_ 12 (d := dd "motions_text" 27) rfl; ⟨_, ["motions"], [], [], fnF_zero, F.bindsN fun _ _ _ _ _ _ us hl => match us, hl with | [_], _ => rfl, .nil, fun _ _ => .nil, F.kp⟩),
    (let ⟨_, F⟩ := c.def_ 13 (d := dd "words_of" 28) rfl; ⟨_, ["value"], [], [], fnF_zero, F.bindsN fun _ _ _ _ _ _ us hl => match us, hl with | [_], _ => rfl, .nil, fun _ _ => .nil, F.kp⟩),
    (let ⟨_, F⟩ := c.def_ 14 (d := dd "read_lamp" 29) rfl; ⟨_, ["word"], [], [], fnF_zero, F.bindsN fun _ _ _ _ _ _ us hl => match us, hl with | [_], _ => rfl, .nil, fun _ _ => .nil, F.kp⟩),
    (let ⟨_, F⟩ := c.def_ 15 (d := dd "parse_lamps" 30) rfl; ⟨_, ["value"], [], [], fnF_zero, F.bindsN fun _ _ _ _ _ _ us hl => match us, hl with | [_], _ => rfl, .nil, fun _ _ => .nil, F.kp⟩),
    (let ⟨_, F⟩ := c.def_ 16 (d := dd "parse_log" 31) rfl; ⟨_, ["value"], [], [], fnF_zero, F.bindsN fun _ _ _ _ _ _ us hl => match us, hl with | [_], _ => rfl, .nil, fun _ _ => .nil, F.kp⟩),
    (let ⟨_, F⟩ := c.def_ 17 (d := dd "read_run" 32) rfl; ⟨_, ["word"], [], [], fnF_zero, F.bindsN fun _ _ _ _ _ _ us hl => match us, hl with | [_], _ => rfl, .nil, fun _ _ => .nil, F.kp⟩),
    (let ⟨_, F⟩ := c.def_ 18 (d := dd "parse_motions" 33) rfl; ⟨_, ["value"], [], [], fnF_zero, F.bindsN fun _ _ _ _ _ _ us hl => match us, hl with | [_], _ => rfl, .nil, fun _ _ => .nil, F.kp⟩),
    (let ⟨_, F⟩ := c.def_ 19 (d := dd "_law_opened" 35) rfl; ⟨_, ["script"], [], [], fnF_zero, F.bindsN fun _ _ _ _ _ _ us hl => match us, hl with | [_], _ => rfl, .nil, fun _ _ => .nil, F.kp⟩),
    (let ⟨_, F⟩ := c.def_ 20 (d := dd "_law_draw" 36) rfl; ⟨_, ["pot", "many"], [], [], fnF_zero, F.bindsN fun _ _ _ _ _ _ us hl => match us, hl with | [_, _], _ => rfl, .nil, fun _ _ => .nil, F.kp⟩),
    (let ⟨_, F⟩ := c.def_ 21 (d := dd "_law_one" 37) rfl; ⟨_, ["pot", "items"], [], [], fnF_zero, F.bindsN fun _ _ _ _ _ _ us hl => match us, hl with | [_, _], _ => rfl, .nil, fun _ _ => .nil, F.kp⟩),
    (let ⟨_, F⟩ := c.def_ 22 (d := dd "_law_lamp" 38) rfl; ⟨_, ["pot", "great"], [], [], fnF_zero, F.bindsN fun _ _ _ _ _ _ us hl => match us, hl with | [_, _], _ => rfl, .nil, fun _ _ => .nil, F.kp⟩),
    (let ⟨_, F⟩ := c.def_ 23 (d := dd "_law_far_runs" 39) rfl; ⟨_, ["pot", "upto"], [], [], fnF_zero, F.bindsN fun _ _ _ _ _ _ us hl => match us, hl with | [_, _], _ => rfl, .nil, fun _ _ => .nil, F.kp⟩),
    (let ⟨_, F⟩ := c.def_ 24 (d := dd "_law_log" 40) rfl; ⟨_, ["pot", "upto", "great"], [], [], fnF_zero, F.bindsN fun _ _ _ _ _ _ us hl => match us, hl with | [_, _, _], _ => rfl, .nil, fun _ _ => .nil, F.kp⟩),
    (let ⟨_, F⟩ := c.def_ 25 (d := dd "_law_lamps_text" 41) rfl; ⟨_, ["lamps"], [], [], fnF_zero, F.bindsN fun _ _ _ _ _ _ us hl => match us, hl with | [_], _ => rfl, .nil, fun _ _ => .nil, F.kp⟩),
    (let ⟨_, F⟩ := c.def_ 26 (d := dd "_law_log_text" 42) rfl; ⟨_, ["log"], [], [], fnF_zero, F.bindsN fun _ _ _ _ _ _ us hl => match us, hl with | [_], _ => rfl, .nil, fun _ _ => .nil, F.kp⟩),
    (let ⟨_, F⟩ := c.def_ 27 (d := dd "_law_runs_text" 43) rfl; ⟨_, ["runs"], [], [], fnF_zero, F.bindsN fun _ _ _ _ _ _ us hl => match us, hl with | [_], _ => rfl, .nil, fun _ _ => .nil, F.kp⟩),
    (let ⟨_, F⟩ := c.def_ 28 (d := dd "law" 44) rfl; ⟨_, ["script"], [], [], fnF_zero, F.bindsN fun _ _ _ _ _ _ us hl => match us, hl with | [_], _ => rfl, .nil, fun _ _ => .nil, F.kp⟩)⟩
  | k + 1 =>
    have Q := gc_of (P := P) (w := w) (base := base) G c k
    ⟨
    (let ⟨_, F⟩ := c.def_ 0 (d := dd "is_integer" 11) rfl; ⟨_, ["value", "low", "high"], [], [], fnF_of F fs_is_integer pr_is_integer rfl rfl fun X W e1 e2 e3 e4 e5 cx => (by subst e1 e2 e3 e4 e5; exact ok_is_integer G Q cx.cy cx.po cx.fn), F.bindsN fun _ _ _ _ _ _ us hl => match us, hl with | [_, _, _], _ => rfl, .nil, fun _ _ => .nil, F.kp⟩),
    (let ⟨_, F⟩ := c.def_ 1 (d := dd "is_minute" 12) rfl; ⟨_, ["value"], [], [], fnF_of F fs_is_minute pr_is_minute rfl rfl fun X W e1 e2 e3 e4 e5 cx => (by subst e1 e2 e3 e4 e5; exact ok_is_minute G Q cx.cy cx.po cx.fn), F.bindsN fun _ _ _ _ _ _ us hl => match us, hl with | [_], _ => rfl, .nil, fun _ _ => .nil, F.kp⟩),
    (let ⟨_, F⟩ := c.def_ 2 (d := dd "is_lamp" 13) rfl; ⟨_, ["value"], [], [], fnF_of F fs_is_lamp pr_is_lamp rfl rfl fun X W e1 e2 e3 e4 e5 cx => (by subst e1 e2 e3 e4 e5; exact ok_is_lamp G Q cx.cy cx.po cx.fn), F.bindsN fun _ _ _ _ _ _ us hl => match us, hl with | [_], _ => rfl, .nil, fun _ _ => .nil, F.kp⟩),
    (let ⟨_, F⟩ := c.def_ 3 (d := dd "end_of" 14) rfl; ⟨_, ["run"], [], [], fnF_of F fs_end_of pr_end_of rfl rfl fun X W e1 e2 e3 e4 e5 cx => (by subst e1 e2 e3 e4 e5; exact ok_end_of G Q cx.cy cx.po cx.fn), F.bindsN fun _ _ _ _ _ _ us hl => match us, hl with | [_], _ => rfl, .nil, fun _ _ => .nil, F.kp⟩),
    (let ⟨_, F⟩ := c.def_ 4 (d := dd "is_run" 15) rfl; ⟨_, ["value"], [], [], fnF_of F fs_is_run pr_is_run rfl rfl fun X W e1 e2 e3 e4 e5 cx => (by subst e1 e2 e3 e4 e5; exact ok_is_run G Q cx.cy cx.po cx.fn), F.bindsN fun _ _ _ _ _ _ us hl => match us, hl with | [_], _ => rfl, .nil, fun _ _ => .nil, F.kp⟩),
    (let ⟨_, F⟩ := c.def_ 5 (d := dd "is_stretch" 16) rfl; ⟨_, ["value"], [], [], fnF_of F fs_is_stretch pr_is_stretch rfl rfl fun X W e1 e2 e3 e4 e5 cx => (by subst e1 e2 e3 e4 e5; exact ok_is_stretch G Q cx.cy cx.po cx.fn), F.bindsN fun _ _ _ _ _ _ us hl => match us, hl with | [_], _ => rfl, .nil, fun _ _ => .nil, F.kp⟩),
    (let ⟨_, F⟩ := c.def_ 6 (d := dd "read_integer" 21) rfl; ⟨_, ["word"], [], [], fnF_of F fs_read_integer pr_read_integer rfl rfl fun X W e1 e2 e3 e4 e5 cx => (by subst e1 e2 e3 e4 e5; exact ok_read_integer G Q cx.cy cx.po cx.fn), F.bindsN fun _ _ _ _ _ _ us hl => match us, hl with | [_], _ => rfl, .nil, fun _ _ => .nil, F.kp⟩),
    (let ⟨_, F⟩ := c.def_ 7 (d := dd "read_pair" 22) rfl; ⟨_, ["word", "sign"], [], [], fnF_of F fs_read_pair pr_read_pair rfl rfl fun X W e1 e2 e3 e4 e5 cx => (by subst e1 e2 e3 e4 e5; exact ok_read_pair G Q cx.cy cx.po cx.fn), F.bindsN fun _ _ _ _ _ _ us hl => match us, hl with | [_, _], _ => rfl, .nil, fun _ _ => .nil, F.kp⟩),
    (let ⟨_, F⟩ := c.def_ 8 (d := dd "listed" 23) rfl; ⟨_, ["words"], [], [], fnF_of F fs_listed pr_listed rfl rfl fun X W e1 e2 e3 e4 e5 cx => (by subst e1 e2 e3 e4 e5; exact ok_listed G Q cx.cy cx.po cx.fn), F.bindsN fun _ _ _ _ _ _ us hl => match us, hl with | [_], _ => rfl, .nil, fun _ _ => .nil, F.kp⟩),
    (let ⟨_, F⟩ := c.def_ 9 (d := dd "lamps_text" 24) rfl; ⟨_, ["lamps"], [], [], fnF_of F fs_lamps_text pr_lamps_text rfl rfl fun X W e1 e2 e3 e4 e5 cx => (by subst e1 e2 e3 e4 e5; exact ok_lamps_text G Q cx.cy cx.po cx.fn), F.bindsN fun _ _ _ _ _ _ us hl => match us, hl with | [_], _ => rfl, .nil, fun _ _ => .nil, F.kp⟩),
    (let ⟨_, F⟩ := c.def_ 10 (d := dd "log_text" 25) rfl; ⟨_, ["log"], [], [], fnF_of F fs_log_text pr_log_text rfl rfl fun X W e1 e2 e3 e4 e5 cx => (by subst e1 e2 e3 e4 e5; exact ok_log_text G Q cx.cy cx.po cx.fn), F.bindsN fun _ _ _ _ _ _ us hl => match us, hl with | [_], _ => rfl, .nil, fun _ _ => .nil, F.kp⟩),
    (let ⟨_, F⟩ := c.def_ 11 (d := dd "run_text" 26) rfl; ⟨_, ["run"], [], [], fnF_of F fs_run_text pr_run_text rfl rfl fun X W e1 e2 e3 e4 e5 cx => (by subst e1 e2 e3 e4 e5; exact ok_run_text G Q cx.cy cx.po cx.fn), F.bindsN fun _ _ _ _ _ _ us hl => match us, hl with | [_], _ => rfl, .nil, fun _ _ => .nil, F.kp⟩),
    (let ⟨_, F⟩ := c.def_ 12 (d := dd "motions_text" 27) rfl; ⟨_, ["motions"], [], [], fnF_of F fs_motions_text pr_motions_text rfl rfl fun X W e1 e2 e3 e4 e5 cx => (by subst e1 e2 e3 e4 e5; exact ok_motions_text G Q cx.cy cx.po cx.fn), F.bindsN fun _ _ _ _ _ _ us hl => match us, hl with | [_], _ => rfl, .nil, fun _ _ => .nil, F.kp⟩),
    (let ⟨_, F⟩ := c.def_ 13 (d := dd "words_of" 28) rfl; ⟨_, ["value"], [], [], fnF_of F fs_words_of pr_words_of rfl rfl fun X W e1 e2 e3 e4 e5 cx => (by subst e1 e2 e3 e4 e5; exact ok_words_of G Q cx.cy cx.po cx.fn), F.bindsN fun _ _ _ _ _ _ us hl => match us, hl with | [_], _ => rfl, .nil, fun _ _ => .nil, F.kp⟩),
    (let ⟨_, F⟩ := c.def_ 14 (d := dd "read_lamp" 29) rfl; ⟨_, ["word"], [], [], fnF_of F fs_read_lamp pr_read_lamp rfl rfl fun X W e1 e2 e3 e4 e5 cx => (by subst e1 e2 e3 e4 e5; exact ok_read_lamp G Q cx.cy cx.po cx.fn), F.bindsN fun _ _ _ _ _ _ us hl => match us, hl with | [_], _ => rfl, .nil, fun _ _ => .nil, F.kp⟩),
    (let ⟨_, F⟩ := c.def_ 15 (d := dd "parse_lamps" 30) rfl; ⟨_, ["value"], [], [], fnF_of F fs_parse_lamps pr_parse_lamps rfl rfl fun X W e1 e2 e3 e4 e5 cx => (by subst e1 e2 e3 e4 e5; exact ok_parse_lamps G Q cx.cy cx.po cx.fn), F.bindsN fun _ _ _ _ _ _ us hl => match us, hl with | [_], _ => rfl, .nil, fun _ _ => .nil, F.kp⟩),
    (let ⟨_, F⟩ := c.def_ 16 (d := dd "parse_log" 31) rfl; ⟨_, ["value"], [], [], fnF_of F fs_parse_log pr_parse_log rfl rfl fun X W e1 e2 e3 e4 e5 cx => (by subst e1 e2 e3 e4 e5; exact ok_parse_log G Q cx.cy cx.po cx.fn), F.bindsN fun _ _ _ _ _ _ us hl => match us, hl with | [_], _ => rfl, .nil, fun _ _ => .nil, F.kp⟩),
    (let ⟨_, F⟩ := c.def_ 17 (d := dd "read_run" 32) rfl; ⟨_, ["word"], [], [], fnF_of F fs_read_run pr_read_run rfl rfl fun X W e1 e2 e3 e4 e5 cx => (by subst e1 e2 e3 e4 e5; exact ok_read_run G Q cx.cy cx.po cx.fn), F.bindsN fun _ _ _ _ _ _ us hl => match us, hl with | [_], _ => rfl, .nil, fun _ _ => .nil, F.kp⟩),
    (let ⟨_, F⟩ := c.def_ 18 (d := dd "parse_motions" 33) rfl; ⟨_, ["value"], [], [], fnF_of F fs_parse_motions pr_parse_motions rfl rfl fun X W e1 e2 e3 e4 e5 cx => (by subst e1 e2 e3 e4 e5; exact ok_parse_motions G Q cx.cy cx.po cx.fn), F.bindsN fun _ _ _ _ _ _ us hl => match us, hl with | [_], _ => rfl, .nil, fun _ _ => .nil, F.kp⟩),
    (let ⟨_, F⟩ := c.def_ 19 (d := dd "_law_opened" 35) rfl; ⟨_, ["script"], [], [], fnF_of F fs__law_opened pr__law_opened rfl rfl fun X W e1 e2 e3 e4 e5 cx => (by subst e1 e2 e3 e4 e5; exact ok__law_opened G Q cx.cy cx.po cx.fn), F.bindsN fun _ _ _ _ _ _ us hl => match us, hl with | [_], _ => rfl, .nil, fun _ _ => .nil, F.kp⟩),
    (let ⟨_, F⟩ := c.def_ 20 (d := dd "_law_draw" 36) rfl; ⟨_, ["pot", "many"], [], [], fnF_of F fs__law_draw pr__law_draw rfl rfl fun X W e1 e2 e3 e4 e5 cx => (by subst e1 e2 e3 e4 e5; exact ok__law_draw G Q cx.cy cx.po cx.fn), F.bindsN fun _ _ _ _ _ _ us hl => match us, hl with | [_, _], _ => rfl, .nil, fun _ _ => .nil, F.kp⟩),
    (let ⟨_, F⟩ := c.def_ 21 (d := dd "_law_one" 37) rfl; ⟨_, ["pot", "items"], [], [], fnF_of F fs__law_one pr__law_one rfl rfl fun X W e1 e2 e3 e4 e5 cx => (by subst e1 e2 e3 e4 e5; exact ok__law_one G Q cx.cy cx.po cx.fn), F.bindsN fun _ _ _ _ _ _ us hl => match us, hl with | [_, _], _ => rfl, .nil, fun _ _ => .nil, F.kp⟩),
    (let ⟨_, F⟩ := c.def_ 22 (d := dd "_law_lamp" 38) rfl; ⟨_, ["pot", "great"], [], [], fnF_of F fs__law_lamp pr__law_lamp rfl rfl fun X W e1 e2 e3 e4 e5 cx => (by subst e1 e2 e3 e4 e5; exact ok__law_lamp G Q cx.cy cx.po cx.fn), F.bindsN fun _ _ _ _ _ _ us hl => match us, hl with | [_, _], _ => rfl, .nil, fun _ _ => .nil, F.kp⟩),
    (let ⟨_, F⟩ := c.def_ 23 (d := dd "_law_far_runs" 39) rfl; ⟨_, ["pot", "upto"], [], [], fnF_of F fs__law_far_runs pr__law_far_runs rfl rfl fun X W e1 e2 e3 e4 e5 cx => (by subst e1 e2 e3 e4 e5; exact ok__law_far_runs G Q cx.cy cx.po cx.fn), F.bindsN fun _ _ _ _ _ _ us hl => match us, hl with | [_, _], _ => rfl, .nil, fun _ _ => .nil, F.kp⟩),
    (let ⟨_, F⟩ := c.def_ 24 (d := dd "_law_log" 40) rfl; ⟨_, ["pot", "upto", "great"], [], [], fnF_of F fs__law_log pr__law_log rfl rfl fun X W e1 e2 e3 e4 e5 cx => (by subst e1 e2 e3 e4 e5; exact ok__law_log G Q cx.cy cx.po cx.fn), F.bindsN fun _ _ _ _ _ _ us hl => match us, hl with | [_, _, _], _ => rfl, .nil, fun _ _ => .nil, F.kp⟩),
    (let ⟨_, F⟩ := c.def_ 25 (d := dd "_law_lamps_text" 41) rfl; ⟨_, ["lamps"], [], [], fnF_of F fs__law_lamps_text pr__law_lamps_text rfl rfl fun X W e1 e2 e3 e4 e5 cx => (by subst e1 e2 e3 e4 e5; exact ok__law_lamps_text G Q cx.cy cx.po cx.fn), F.bindsN fun _ _ _ _ _ _ us hl => match us, hl with | [_], _ => rfl, .nil, fun _ _ => .nil, F.kp⟩),
    (let ⟨_, F⟩ := c.def_ 26 (d := dd "_law_log_text" 42) rfl; ⟨_, ["log"], [], [], fnF_of F fs__law_log_text pr__law_log_text rfl rfl fun X W e1 e2 e3 e4 e5 cx => (by subst e1 e2 e3 e4 e5; exact ok__law_log_text G Q cx.cy cx.po cx.fn), F.bindsN fun _ _ _ _ _ _ us hl => match us, hl with | [_], _ => rfl, .nil, fun _ _ => .nil, F.kp⟩),
    (let ⟨_, F⟩ := c.def_ 27 (d := dd "_law_runs_text" 43) rfl; ⟨_, ["runs"], [], [], fnF_of F fs__law_runs_text pr__law_runs_text rfl rfl fun X W e1 e2 e3 e4 e5 cx => (by subst e1 e2 e3 e4 e5; exact ok__law_runs_text G Q cx.cy cx.po cx.fn), F.bindsN fun _ _ _ _ _ _ us hl => match us, hl with | [_], _ => rfl, .nil, fun _ _ => .nil, F.kp⟩),
    (let ⟨_, F⟩ := c.def_ 28 (d := dd "law" 44) rfl; ⟨_, ["script"], [], [], fnF_of F fs_law pr_law rfl rfl fun X W e1 e2 e3 e4 e5 cx => (by subst e1 e2 e3 e4 e5; exact ok_law G Q cx.cy cx.po cx.fn), F.bindsN fun _ _ _ _ _ _ us hl => match us, hl with | [_], _ => rfl, .nil, fun _ _ => .nil, F.kp⟩)⟩
end K71

set_option maxRecDepth 100000
set_option maxHeartbeats 2000000
namespace K71
open PySem PySem.Spec PyProof.Rows L2 Fx
variable {k : Nat} {s : Sto}
theorem is_integer_int {v lo hi : Int} : run pr (k + 1) "is_integer" [.int v, .int lo, .int hi] s = .ok (.bl (decide (lo ≤ v ∧ v ≤ hi))) s := by
  refine run_pure pr_is_integer rfl ?_
  unfold b_is_integer
  by_cases h1 : lo ≤ v <;> by_cases h2 : v ≤ hi <;> simp only [h1, h2, ev_var, ev_var1, ev_c, ev_vout, ev_bin, ev_bin1, ev_bin2, ev_un, ev_un1, ev_lnil, ev_lcons, ev_lcons1, ev_lcons2, ev_ldef, ev_ldef1, ev_lstar, ev_lstar1, ev_lstar1b, ev_lstar2, ev_tup, ev_tup1, ev_lst, ev_lst1, ev_lchk, ev_lchk1, ev_call, ev_call1, ev_g, ev_b, ev_b1, ev_tmp, ev_tmp1, ev_comp, ev_comp1, ev_if, ev_if1t, ev_if1f, ev_bt, ev_bt1, ev_bt2, ev_bv, ev_bv1, ev_bnot, ev_bnot1, ev_band, ev_band1t, ev_band1f, ev_bor, ev_bor1t, ev_bor1f, ev_byes, ev_eand, ev_eand1, ev_eand2t, ev_eand2f, ev_eor, ev_eor1, ev_eor2t, ev_eor2f, ev_enot, ev_enot1, ev_enot2, ev_ch, ev_ch1, ev_ch2, ev_ch3t, ev_ch3f, ev_ch4, ev_m, ev_m1, ev_m2, ev_m3, ev_jo, ev_jo1, ev_jo2, ev_fs, ev_jfn, ev_jfc, ev_jf1, ev_dct, ev_kvn, ev_kvc, ev_kv1, ev_kv2, ev_kv3, ev_dct1, ev_pn, ev_ps, ev_ps1, ev_sl, ev_sl1, ev_sl2, ev_sl3, ev_snil, ev_seq, ev_seqn, ev_seqr, ev_seqb, ev_seqc, ev_seqx, ev_sex, ev_sex1, ev_ret, ev_ret1, ev_retn, ev_sif, ev_sif1t, ev_sif1f, ev_brk, ev_cnt, ev_asg, ev_asg1, ev_gnm, ev_gnil, ev_gcons, ev_gcons1, ev_gtp, ev_gst, ev_gst1, ev_gsub, ev_gsub1, ev_gsub2, ev_gsub3, ev_par, ev_par1, ev_par3, ev_par31, ev_aug, ev_aug1, ev_aug2, ev_aug3, ev_for, ev_for1, ev_lcomp, ev_lcomp1, ev_wipn, ev_wipc, ev_iseq, ev_iseq1, ev_seqt, ev_seqf, ev_seqs, ev_seql, ev_seql1, ev_rg1, ev_rg11, ev_rg2, ev_rg21, ev_en, ev_en1, ev_en2, ev_outr, ev_outn, ev_outx, ev_ixi, ev_ixk, ev_ixl, ev_ixll, ev_ixld, ev_ixkk, ev_ix1, ev_ixt, ev_ixf, vv_oAdd, vv_oAddI, vv_oSub, vv_oLt, vv_oLe, vv_oGt, vv_oGe, vv_oEq, vv_oNe, vv_eqs, vv_nes, vv_eqns, vv_isn, vv_notn, vv_in_non, vv_in_bl, vv_in_int, vv_in_str, vv_in_tup, vv_in_frz, vv_in_loc, vv_neg, vv_tb, vv_ti, vv_tn, vv_tt, vv_tf, vv_mul, vv_div, vv_mod, vv_pow7, vv_pow8, vv_pow9, vv_pow18, vv_pow12, vv_pow6, vv_pow5, vv_pow4, vv_pow10, vv_pow16, vv_abs, vv_min, vv_max, vv_inti, vv_intb, vv_stri, vv_strs, vv_lent, vv_lenf, vv_lens, vv_htup, vv_hlen, vv_is_non_bool, vv_is_non_int, vv_is_non_str, vv_is_non_tuple, vv_is_bl_bool, vv_is_bl_int, vv_is_bl_str, vv_is_bl_tuple, vv_is_int_bool, vv_is_int_int, vv_is_int_str, vv_is_int_tuple, vv_is_str_bool, vv_is_str_int, vv_is_str_str, vv_is_str_tuple, vv_is_tup_bool, vv_is_tup_int, vv_is_tup_str, vv_is_tup_tuple, vv_is_frz_bool, vv_is_frz_int, vv_is_frz_str, vv_is_frz_tuple, vv_iss, vv_items_t, vv_items_f, vv_spl, vv_fmts, vv_fmti, vv_cats, vv_cast0, vv_cast1, vv_cast2, vv_cast3, vv_cast4, vv_cast5, vv_cast6, vv_cast7, vv_cast8, vv_cast9, vv_cast10, vv_cast11, vv_line0, vv_line1, vv_line2, vv_line3, vv_line4, vv_line5, vv_line6, vv_line7, vv_line8, vv_isl, vv_isl1, vv_lenl, vv_lenl1, vv_tupl, vv_tupl1, vv_items_l, vv_items_l1, vv_lst_f, vv_lst_l, vv_lst_l1, vv_app, vv_app1, vv_pop0, vv_pop01, vv_ins0, vv_ins01, vv_mull, vv_mull0, vv_mull1, vv_addl, vv_addl1, vv_slf, vv_slt, List.getElem?_cons_zero, List.getElem?_cons_succ, List.set_cons_zero, List.set_cons_succ, List.map_cons, List.map_nil, List.length_cons, List.length_nil, List.replicate_succ, List.replicate_zero, List.cons_append, List.nil_append, List.append_nil, Option.map_some, Option.map_none, Option.bind_some, Nat.reduceSub, Nat.reduceAdd, Nat.reduceMul, Nat.reduceLeDiff, Nat.zero_le, Int.reduceLT, Int.reduceLE, Int.reduceNeg, Int.reduceAdd, Int.reduceEq, Int.reduceMul, Int.reduceSub, eq_self, Bool.not_true, Bool.not_false, Bool.and_true, Bool.true_and, Bool.and_false, Bool.false_and, Bool.or_true, Bool.true_or, Bool.or_false, Bool.false_or, decide_true, decide_false, if_true, if_false, ite_true, ite_false, Bool.false_eq_true, and_true, true_and, and_false, false_and, not_true_eq_false, not_false_eq_true]
theorem is_minute_int {v : Int} : run pr (k + 2) "is_minute" [.int v] s = .ok (.bl (decide (0 ≤ v ∧ v ≤ 1000000000))) s := by
  refine run_pure pr_is_minute rfl ?_
  unfold b_is_minute
  simp only [is_integer_int, ev_var, ev_var1, ev_c, ev_vout, ev_bin, ev_bin1, ev_bin2, ev_un, ev_un1, ev_lnil, ev_lcons, ev_lcons1, ev_lcons2, ev_ldef, ev_ldef1, ev_lstar, ev_lstar1, ev_lstar1b, ev_lstar2, ev_tup, ev_tup1, ev_lst, ev_lst1, ev_lchk, ev_lchk1, ev_call, ev_call1, ev_g, ev_b, ev_b1, ev_tmp, ev_tmp1, ev_comp, ev_comp1, ev_if, ev_if1t, ev_if1f, ev_bt, ev_bt1, ev_bt2, ev_bv, ev_bv1, ev_bnot, ev_bnot1, ev_band, ev_band1t, ev_band1f, ev_bor, ev_bor1t, ev_bor1f, ev_byes, ev_eand, ev_eand1, ev_eand2t, ev_eand2f, ev_eor, ev_eor1, ev_eor2t, ev_eor2f, ev_enot, ev_enot1, ev_enot2, ev_ch, ev_ch1, ev_ch2, ev_ch3t, ev_ch3f, ev_ch4, ev_m, ev_m1, ev_m2, ev_m3, ev_jo, ev_jo1, ev_jo2, ev_fs, ev_jfn, ev_jfc, ev_jf1, ev_dct, ev_kvn, ev_kvc, ev_kv1, ev_kv2, ev_kv3, ev_dct1, ev_pn, ev_ps, ev_ps1, ev_sl, ev_sl1, ev_sl2, ev_sl3, ev_snil, ev_seq, ev_seqn, ev_seqr, ev_seqb, ev_seqc, ev_seqx, ev_sex, ev_sex1, ev_ret, ev_ret1, ev_retn, ev_sif, ev_sif1t, ev_sif1f, ev_brk, ev_cnt, ev_asg, ev_asg1, ev_gnm, ev_gnil, ev_gcons, ev_gcons1, ev_gtp, ev_gst, ev_gst1, ev_gsub, ev_gsub1, ev_gsub2, ev_gsub3, ev_par, ev_par1, ev_par3, ev_par31, ev_aug, ev_aug1, ev_aug2, ev_aug3, ev_for, ev_for1, ev_lcomp, ev_lcomp1, ev_wipn, ev_wipc, ev_iseq, ev_iseq1, ev_seqt, ev_seqf, ev_seqs, ev_seql, ev_seql1, ev_rg1, ev_rg11, ev_rg2, ev_rg21, ev_en, ev_en1, ev_en2, ev_outr, ev_outn, ev_outx, ev_ixi, ev_ixk, ev_ixl, ev_ixll, ev_ixld, ev_ixkk, ev_ix1, ev_ixt, ev_ixf, vv_oAdd, vv_oAddI, vv_oSub, vv_oLt, vv_oLe, vv_oGt, vv_oGe, vv_oEq, vv_oNe, vv_eqs, vv_nes, vv_eqns, vv_isn, vv_notn, vv_in_non, vv_in_bl, vv_in_int, vv_in_str, vv_in_tup, vv_in_frz, vv_in_loc, vv_neg, vv_tb, vv_ti, vv_tn, vv_tt, vv_tf, vv_mul, vv_div, vv_mod, vv_pow7, vv_pow8, vv_pow9, vv_pow18, vv_pow12, vv_pow6, vv_pow5, vv_pow4, vv_pow10, vv_pow16, vv_abs, vv_min, vv_max, vv_inti, vv_intb, vv_stri, vv_strs, vv_lent, vv_lenf, vv_lens, vv_htup, vv_hlen, vv_is_non_bool, vv_is_non_int, vv_is_non_str, vv_is_non_tuple, vv_is_bl_bool, vv_is_bl_int, vv_is_bl_str, vv_is_bl_tuple, vv_is_int_bool, vv_is_int_int, vv_is_int_str, vv_is_int_tuple, vv_is_str_bool, vv_is_str_int, vv_is_str_str, vv_is_str_tuple, vv_is_tup_bool, vv_is_tup_int, vv_is_tup_str, vv_is_tup_tuple, vv_is_frz_bool, vv_is_frz_int, vv_is_frz_str, vv_is_frz_tuple, vv_iss, vv_items_t, vv_items_f, vv_spl, vv_fmts, vv_fmti, vv_cats, vv_cast0, vv_cast1, vv_cast2, vv_cast3, vv_cast4, vv_cast5, vv_cast6, vv_cast7, vv_cast8, vv_cast9, vv_cast10, vv_cast11, vv_line0, vv_line1, vv_line2, vv_line3, vv_line4, vv_line5, vv_line6, vv_line7, vv_line8, vv_isl, vv_isl1, vv_lenl, vv_lenl1, vv_tupl, vv_tupl1, vv_items_l, vv_items_l1, vv_lst_f, vv_lst_l, vv_lst_l1, vv_app, vv_app1, vv_pop0, vv_pop01, vv_ins0, vv_ins01, vv_mull, vv_mull0, vv_mull1, vv_addl, vv_addl1, vv_slf, vv_slt, List.getElem?_cons_zero, List.getElem?_cons_succ, List.set_cons_zero, List.set_cons_succ, List.map_cons, List.map_nil, List.length_cons, List.length_nil, List.replicate_succ, List.replicate_zero, List.cons_append, List.nil_append, List.append_nil, Option.map_some, Option.map_none, Option.bind_some, Nat.reduceSub, Nat.reduceAdd, Nat.reduceMul, Nat.reduceLeDiff, Nat.zero_le, Int.reduceLT, Int.reduceLE, Int.reduceNeg, Int.reduceAdd, Int.reduceEq, Int.reduceMul, Int.reduceSub, eq_self, Bool.not_true, Bool.not_false, Bool.and_true, Bool.true_and, Bool.and_false, Bool.false_and, Bool.or_true, Bool.true_or, Bool.or_false, Bool.false_or, decide_true, decide_false, if_true, if_false, ite_true, ite_false, Bool.false_eq_true, and_true, true_and, and_false, false_and, not_true_eq_false, not_false_eq_true]
end K71

set_option maxRecDepth 100000
set_option maxHeartbeats 4000000
namespace K71
open PySem PySem.Spec PyProof.Rows L2 Fx
section
variable {d n k : Nat} {s : Sto}
def encL (q : Str × Int) : T := .tup [.str q.1, .int q.2]
def okL (q : Str × Int) : Prop := (q.1 = "hold" ∨ q.1 = "pulse") ∧ 1 ≤ q.2 ∧ q.2 ≤ 1000000000
abbrev NB : Nat := 1000000000000000000000
theorem lamp_spec (P : Pot d n s) (hn : n ≤ NB) : ∃ q s', run pr (k + 3) "_law_lamp" [.loc d, .int 1000000000] s = .ok (encL q) s' ∧ Pot d (n + 5) s' ∧ Frm d s s' ∧ okL q := by
  unfold NB at hn
  obtain ⟨v1, s1, e1, a1, b1, P1, F1⟩ := draw_spec (k := k + 1) (many := 12) pr__law_draw P (by omega) (by decide) (by decide)
  obtain ⟨v2, s2, e2, a2, b2, P2, F2⟩ := draw_spec (k := k + 1) (many := 40) pr__law_draw P1 (by omega) (by decide) (by decide)
  obtain ⟨v3, s3, e3, a3, b3, P3, F3⟩ := draw_spec (k := k + 1) (many := 1000000000) pr__law_draw P2 (by omega) (by decide) (by decide)
  obtain ⟨st, s4, e4, m4, P4, F4⟩ := one_ints (k := k) (us := [1, 2, 1 + v1, 1 + v2, 1 + v3, 1000000000]) pr__law_draw pr__law_one P3 ((F1.trans F2).trans F3) (by omega) (by simp) (by simp)
  obtain ⟨kd, s5, e5, m5, P5, F5⟩ := one_lit (k := k) (us := [.str "hold", .str "pulse"]) pr__law_draw pr__law_one P4 Frm.refl (by omega) (by simp) (by simp) (by intro t ht; simp at ht; rcases ht with rfl | rfl <;> rfl)
  obtain ⟨z, rfl, hz⟩ : ∃ z, kd = .str z ∧ (z = "hold" ∨ z = "pulse") := by
    simp only [List.mem_cons, List.not_mem_nil, or_false] at m5
    rcases m5 with rfl | rfl
    · exact ⟨_, rfl, .inl rfl⟩
    · exact ⟨_, rfl, .inr rfl⟩
  simp only [List.map_cons, List.map_nil] at e4
  have fin : (b__law_lamp (run pr (k + 2)) [some (.loc d), some (.int 1000000000), none] s).out = .ok (encL (z, st)) s5 := by
    unfold b__law_lamp
    simp only [e1, e2, e3, e4, e5, encL, ev_var, ev_var1, ev_c, ev_vout, ev_bin, ev_bin1, ev_bin2, ev_un, ev_un1, ev_lnil, ev_lcons, ev_lcons1, ev_lcons2, ev_ldef, ev_ldef1, ev_lstar, ev_lstar1, ev_lstar1b, ev_lstar2, ev_tup, ev_tup1, ev_lst, ev_lst1, ev_lchk, ev_lchk1, ev_call, ev_call1, ev_g, ev_b, ev_b1, ev_tmp, ev_tmp1, ev_comp, ev_comp1, ev_if, ev_if1t, ev_if1f, ev_bt, ev_bt1, ev_bt2, ev_bv, ev_bv1, ev_bnot, ev_bnot1, ev_band, ev_band1t, ev_band1f, ev_bor, ev_bor1t, ev_bor1f, ev_byes, ev_eand, ev_eand1, ev_eand2t, ev_eand2f, ev_eor, ev_eor1, ev_eor2t, ev_eor2f, ev_enot, ev_enot1, ev_enot2, ev_ch, ev_ch1, ev_ch2, ev_ch3t, ev_ch3f, ev_ch4, ev_m, ev_m1, ev_m2, ev_m3, ev_jo, ev_jo1, ev_jo2, ev_fs, ev_jfn, ev_jfc, ev_jf1, ev_dct, ev_kvn, ev_kvc, ev_kv1, ev_kv2, ev_kv3, ev_dct1, ev_pn, ev_ps, ev_ps1, ev_sl, ev_sl1, ev_sl2, ev_sl3, ev_snil, ev_seq, ev_seqn, ev_seqr, ev_seqb, ev_seqc, ev_seqx, ev_sex, ev_sex1, ev_ret, ev_ret1, ev_retn, ev_sif, ev_sif1t, ev_sif1f, ev_brk, ev_cnt, ev_asg, ev_asg1, ev_gnm, ev_gnil, ev_gcons, ev_gcons1, ev_gtp, ev_gst, ev_gst1, ev_gsub, ev_gsub1, ev_gsub2, ev_gsub3, ev_par, ev_par1, ev_par3, ev_par31, ev_aug, ev_aug1, ev_aug2, ev_aug3, ev_for, ev_for1, ev_lcomp, ev_lcomp1, ev_wipn, ev_wipc, ev_iseq, ev_iseq1, ev_seqt, ev_seqf, ev_seqs, ev_seql, ev_seql1, ev_rg1, ev_rg11, ev_rg2, ev_rg21, ev_en, ev_en1, ev_en2, ev_outr, ev_outn, ev_outx, ev_ixi, ev_ixk, ev_ixl, ev_ixll, ev_ixld, ev_ixkk, ev_ix1, ev_ixt, ev_ixf, vv_oAdd, vv_oAddI, vv_oSub, vv_oLt, vv_oLe, vv_oGt, vv_oGe, vv_oEq, vv_oNe, vv_eqs, vv_nes, vv_eqns, vv_isn, vv_notn, vv_in_non, vv_in_bl, vv_in_int, vv_in_str, vv_in_tup, vv_in_frz, vv_in_loc, vv_neg, vv_tb, vv_ti, vv_tn, vv_tt, vv_tf, vv_mul, vv_div, vv_mod, vv_pow7, vv_pow8, vv_pow9, vv_pow18, vv_pow12, vv_pow6, vv_pow5, vv_pow4, vv_pow10, vv_pow16, vv_abs, vv_min, vv_max, vv_inti, vv_intb, vv_stri, vv_strs, vv_lent, vv_lenf, vv_lens, vv_htup, vv_hlen, vv_is_non_bool, vv_is_non_int, vv_is_non_str, vv_is_non_tuple, vv_is_bl_bool, vv_is_bl_int, vv_is_bl_str, vv_is_bl_tuple, vv_is_int_bool, vv_is_int_int, vv_is_int_str, vv_is_int_tuple, vv_is_str_bool, vv_is_str_int, vv_is_str_str, vv_is_str_tuple, vv_is_tup_bool, vv_is_tup_int, vv_is_tup_str, vv_is_tup_tuple, vv_is_frz_bool, vv_is_frz_int, vv_is_frz_str, vv_is_frz_tuple, vv_iss, vv_items_t, vv_items_f, vv_spl, vv_fmts, vv_fmti, vv_cats, vv_cast0, vv_cast1, vv_cast2, vv_cast3, vv_cast4, vv_cast5, vv_cast6, vv_cast7, vv_cast8, vv_cast9, vv_cast10, vv_cast11, vv_line0, vv_line1, vv_line2, vv_line3, vv_line4, vv_line5, vv_line6, vv_line7, vv_line8, vv_isl, vv_isl1, vv_lenl, vv_lenl1, vv_tupl, vv_tupl1, vv_items_l, vv_items_l1, vv_lst_f, vv_lst_l, vv_lst_l1, vv_app, vv_app1, vv_pop0, vv_pop01, vv_ins0, vv_ins01, vv_mull, vv_mull0, vv_mull1, vv_addl, vv_addl1, vv_slf, vv_slt, List.getElem?_cons_zero, List.getElem?_cons_succ, List.set_cons_zero, List.set_cons_succ, List.map_cons, List.map_nil, List.length_cons, List.length_nil, List.replicate_succ, List.replicate_zero, List.cons_append, List.nil_append, List.append_nil, Option.map_some, Option.map_none, Option.bind_some, Nat.reduceSub, Nat.reduceAdd, Nat.reduceMul, Nat.reduceLeDiff, Nat.zero_le, Int.reduceLT, Int.reduceLE, Int.reduceNeg, Int.reduceAdd, Int.reduceEq, Int.reduceMul, Int.reduceSub, eq_self, Bool.not_true, Bool.not_false, Bool.and_true, Bool.true_and, Bool.and_false, Bool.false_and, Bool.or_true, Bool.true_or, Bool.or_false, Bool.false_or, decide_true, decide_false, if_true, if_false, ite_true, ite_false, Bool.false_eq_true, and_true, true_and, and_false, false_and, not_true_eq_false, not_false_eq_true]
  have hst : 1 ≤ st ∧ st ≤ 1000000000 := by
    simp only [List.mem_cons, List.not_mem_nil, or_false] at m4
    omega
  obtain ⟨s6, e6, F6, P6⟩ := gc_frn (t := encL (z, st)) (F4.trans F5).frn P5 (Nat.zero_le _) P.lt
  exact ⟨(z, st), s6, (run_eq pr__law_lamp rfl).trans ((congrArg _ fin).trans e6), P6.mono (by omega), F6, hz, hst.1, hst.2⟩
end
end K71

set_option maxRecDepth 100000
set_option maxHeartbeats 4000000
namespace K71
open PySem PySem.Spec PyProof.Rows L2 Fx
section
variable {d n k : Nat} {s : Sto}
theorem in_sign {c : Nat} {z : Str} : oIn (.str ⟨#[c]⟩) (.str z) s = some (.bl (decide (c ∈ z.cps.toList)), s) := by
  show (inT s _ _).map _ = _
  simp [inT]
theorem ix_str0 {z : Str} {c : Nat} {r : List Nat} (h : TL.tl z = c :: r) (hz : z.length ≤ sizeLine) : oIx (.str z) (.int 0) s = some (.str ⟨#[c]⟩, s) := by
  unfold oIx
  simp only [hz, if_true]
  have e : atI z.cps.toList 0 = some c := by
    rw [show z.cps.toList = c :: r from h]
    simp [atI, ixN]
  rw [e]; rfl
theorem all_true {α : Type} {f : α → Bool} : ∀ {l : List α}, (∀ a ∈ l, f a = true) → hAll (l.map fun a => T.bl (f a)) s = some (.bl true, s) := by
  intro l h
  unfold hAll
  rw [bls_map]
  have : (l.map f).all id = true := by simpa using h
  simp [this]
theorem read_int {i : Int} (h : 0 ≤ i) (h2 : i < 10000000000) : run pr (k + 1) "read_integer" [.str (num i)] s = .ok (.int i) s := by
  obtain ⟨l1, l2⟩ := num_len h h2
  have hz : (num i).length ≤ sizeLine := by rw [sizeLine_eq]; omega
  have c1 : compL chkT (gNm 1) bYes (eBin oIn (eVar 1) (eC (.str "0123456789"))) [some (.str (num i)), none] (signs (num i)) [] s = .ok ([] ++ (TL.tl (num i)).map fun c => T.bl (decide (c ∈ TL.tl "0123456789"))) s :=
    compL_map rfl (TL.tl (num i)) [] (fun c _ => ⟨[some (.str (num i)), some (.str ⟨#[c]⟩)], rfl, by simp only [in_sign, ev_var, ev_var1, ev_c, ev_vout, ev_bin, ev_bin1, ev_bin2, ev_un, ev_un1, ev_lnil, ev_lcons, ev_lcons1, ev_lcons2, ev_ldef, ev_ldef1, ev_lstar, ev_lstar1, ev_lstar1b, ev_lstar2, ev_tup, ev_tup1, ev_lst, ev_lst1, ev_lchk, ev_lchk1, ev_call, ev_call1, ev_g, ev_b, ev_b1, ev_tmp, ev_tmp1, ev_comp, ev_comp1, ev_if, ev_if1t, ev_if1f, ev_bt, ev_bt1, ev_bt2, ev_bv, ev_bv1, ev_bnot, ev_bnot1, ev_band, ev_band1t, ev_band1f, ev_bor, ev_bor1t, ev_bor1f, ev_byes, ev_eand, ev_eand1, ev_eand2t, ev_eand2f, ev_eor, ev_eor1, ev_eor2t, ev_eor2f, ev_enot, ev_enot1, ev_enot2, ev_ch, ev_ch1, ev_ch2, ev_ch3t, ev_ch3f, ev_ch4, ev_m, ev_m1, ev_m2, ev_m3, ev_jo, ev_jo1, ev_jo2, ev_fs, ev_jfn, ev_jfc, ev_jf1, ev_dct, ev_kvn, ev_kvc, ev_kv1, ev_kv2, ev_kv3, ev_dct1, ev_pn, ev_ps, ev_ps1, ev_sl, ev_sl1, ev_sl2, ev_sl3, ev_snil, ev_seq, ev_seqn, ev_seqr, ev_seqb, ev_seqc, ev_seqx, ev_sex, ev_sex1, ev_ret, ev_ret1, ev_retn, ev_sif, ev_sif1t, ev_sif1f, ev_brk, ev_cnt, ev_asg, ev_asg1, ev_gnm, ev_gnil, ev_gcons, ev_gcons1, ev_gtp, ev_gst, ev_gst1, ev_gsub, ev_gsub1, ev_gsub2, ev_gsub3, ev_par, ev_par1, ev_par3, ev_par31, ev_aug, ev_aug1, ev_aug2, ev_aug3, ev_for, ev_for1, ev_lcomp, ev_lcomp1, ev_wipn, ev_wipc, ev_iseq, ev_iseq1, ev_seqt, ev_seqf, ev_seqs, ev_seql, ev_seql1, ev_rg1, ev_rg11, ev_rg2, ev_rg21, ev_en, ev_en1, ev_en2, ev_outr, ev_outn, ev_outx, ev_ixi, ev_ixk, ev_ixl, ev_ixll, ev_ixld, ev_ixkk, ev_ix1, ev_ixt, ev_ixf, vv_oAdd, vv_oAddI, vv_oSub, vv_oLt, vv_oLe, vv_oGt, vv_oGe, vv_oEq, vv_oNe, vv_eqs, vv_nes, vv_eqns, vv_isn, vv_notn, vv_in_non, vv_in_bl, vv_in_int, vv_in_str, vv_in_tup, vv_in_frz, vv_in_loc, vv_neg, vv_tb, vv_ti, vv_tn, vv_tt, vv_tf, vv_mul, vv_div, vv_mod, vv_pow7, vv_pow8, vv_pow9, vv_pow18, vv_pow12, vv_pow6, vv_pow5, vv_pow4, vv_pow10, vv_pow16, vv_abs, vv_min, vv_max, vv_inti, vv_intb, vv_stri, vv_strs, vv_lent, vv_lenf, vv_lens, vv_htup, vv_hlen, vv_is_non_bool, vv_is_non_int, vv_is_non_str, vv_is_non_tuple, vv_is_bl_bool, vv_is_bl_int, vv_is_bl_str, vv_is_bl_tuple, vv_is_int_bool, vv_is_int_int, vv_is_int_str, vv_is_int_tuple, vv_is_str_bool, vv_is_str_int, vv_is_str_str, vv_is_str_tuple, vv_is_tup_bool, vv_is_tup_int, vv_is_tup_str, vv_is_tup_tuple, vv_is_frz_bool, vv_is_frz_int, vv_is_frz_str, vv_is_frz_tuple, vv_iss, vv_items_t, vv_items_f, vv_spl, vv_fmts, vv_fmti, vv_cats, vv_cast0, vv_cast1, vv_cast2, vv_cast3, vv_cast4, vv_cast5, vv_cast6, vv_cast7, vv_cast8, vv_cast9, vv_cast10, vv_cast11, vv_line0, vv_line1, vv_line2, vv_line3, vv_line4, vv_line5, vv_line6, vv_line7, vv_line8, vv_isl, vv_isl1, vv_lenl, vv_lenl1, vv_tupl, vv_tupl1, vv_items_l, vv_items_l1, vv_lst_f, vv_lst_l, vv_lst_l1, vv_app, vv_app1, vv_pop0, vv_pop01, vv_ins0, vv_ins01, vv_mull, vv_mull0, vv_mull1, vv_addl, vv_addl1, vv_slf, vv_slt, List.getElem?_cons_zero, List.getElem?_cons_succ, List.set_cons_zero, List.set_cons_succ, List.map_cons, List.map_nil, List.length_cons, List.length_nil, List.replicate_succ, List.replicate_zero, List.cons_append, List.nil_append, List.append_nil, Option.map_some, Option.map_none, Option.bind_some, Nat.reduceSub, Nat.reduceAdd, Nat.reduceMul, Nat.reduceLeDiff, Nat.zero_le, Int.reduceLT, Int.reduceLE, Int.reduceNeg, Int.reduceAdd, Int.reduceEq, Int.reduceMul, Int.reduceSub, eq_self, Bool.not_true, Bool.not_false, Bool.and_true, Bool.true_and, Bool.and_false, Bool.false_and, Bool.or_true, Bool.true_or, Bool.or_false, Bool.false_or, decide_true, decide_false, if_true, if_false, ite_true, ite_false, Bool.false_eq_true, and_true, true_and, and_false, false_and, not_true_eq_false, not_false_eq_true]⟩) (by rw [← TL.len_tl, sizeLine_eq]; simp; omega)
  simp only [List.nil_append] at c1
  have al : hAll ((TL.tl (num i)).map fun c => T.bl (decide (c ∈ TL.tl "0123456789"))) s = some (.bl true, s) := all_true fun c hc => by
    have hd := num_digits h c hc
    have e : TL.tl "0123456789" = [48, 49, 50, 51, 52, 53, 54, 55, 56, 57] := by decide
    rw [e]
    have : c = 48 ∨ c = 49 ∨ c = 50 ∨ c = 51 ∨ c = 52 ∨ c = 53 ∨ c = 54 ∨ c = 55 ∨ c = 56 ∨ c = 57 := by omega
    simp [this]
  have b1 : (1 : Int) ≤ ((num i).length : Nat) := by omega
  have b2 : ((num i).length : Int) ≤ 20 := by omega
  have fi : fInt [.str (num i)] s = some (.int i, s) := by
    unfold fInt
    simp only [num_int h h2]
    exact if_pos (by omega)
  have z0 : TL.tl "0" = [48] := by decide
  refine run_pure pr_read_integer rfl ?_
  unfold b_read_integer
  rcases num_head h with ⟨r, e, rfl⟩ | ⟨c, r, e, hc⟩
  · have ix := ix_str0 (s := s) e hz
    have n0 : (num 0 = "0") = True := eq_true (by decide)
    have q1 : (⟨#[48]⟩ : Str) = "0" := by decide
    simp only [hz, b1, b2, c1, al, fi, ix, n0, q1, ev_var, ev_var1, ev_c, ev_vout, ev_bin, ev_bin1, ev_bin2, ev_un, ev_un1, ev_lnil, ev_lcons, ev_lcons1, ev_lcons2, ev_ldef, ev_ldef1, ev_lstar, ev_lstar1, ev_lstar1b, ev_lstar2, ev_tup, ev_tup1, ev_lst, ev_lst1, ev_lchk, ev_lchk1, ev_call, ev_call1, ev_g, ev_b, ev_b1, ev_tmp, ev_tmp1, ev_comp, ev_comp1, ev_if, ev_if1t, ev_if1f, ev_bt, ev_bt1, ev_bt2, ev_bv, ev_bv1, ev_bnot, ev_bnot1, ev_band, ev_band1t, ev_band1f, ev_bor, ev_bor1t, ev_bor1f, ev_byes, ev_eand, ev_eand1, ev_eand2t, ev_eand2f, ev_eor, ev_eor1, ev_eor2t, ev_eor2f, ev_enot, ev_enot1, ev_enot2, ev_ch, ev_ch1, ev_ch2, ev_ch3t, ev_ch3f, ev_ch4, ev_m, ev_m1, ev_m2, ev_m3, ev_jo, ev_jo1, ev_jo2, ev_fs, ev_jfn, ev_jfc, ev_jf1, ev_dct, ev_kvn, ev_kvc, ev_kv1, ev_kv2, ev_kv3, ev_dct1, ev_pn, ev_ps, ev_ps1, ev_sl, ev_sl1, ev_sl2, ev_sl3, ev_snil, ev_seq, ev_seqn, ev_seqr, ev_seqb, ev_seqc, ev_seqx, ev_sex, ev_sex1, ev_ret, ev_ret1, ev_retn, ev_sif, ev_sif1t, ev_sif1f, ev_brk, ev_cnt, ev_asg, ev_asg1, ev_gnm, ev_gnil, ev_gcons, ev_gcons1, ev_gtp, ev_gst, ev_gst1, ev_gsub, ev_gsub1, ev_gsub2, ev_gsub3, ev_par, ev_par1, ev_par3, ev_par31, ev_aug, ev_aug1, ev_aug2, ev_aug3, ev_for, ev_for1, ev_lcomp, ev_lcomp1, ev_wipn, ev_wipc, ev_iseq, ev_iseq1, ev_seqt, ev_seqf, ev_seqs, ev_seql, ev_seql1, ev_rg1, ev_rg11, ev_rg2, ev_rg21, ev_en, ev_en1, ev_en2, ev_outr, ev_outn, ev_outx, ev_ixi, ev_ixk, ev_ixl, ev_ixll, ev_ixld, ev_ixkk, ev_ix1, ev_ixt, ev_ixf, vv_oAdd, vv_oAddI, vv_oSub, vv_oLt, vv_oLe, vv_oGt, vv_oGe, vv_oEq, vv_oNe, vv_eqs, vv_nes, vv_eqns, vv_isn, vv_notn, vv_in_non, vv_in_bl, vv_in_int, vv_in_str, vv_in_tup, vv_in_frz, vv_in_loc, vv_neg, vv_tb, vv_ti, vv_tn, vv_tt, vv_tf, vv_mul, vv_div, vv_mod, vv_pow7, vv_pow8, vv_pow9, vv_pow18, vv_pow12, vv_pow6, vv_pow5, vv_pow4, vv_pow10, vv_pow16, vv_abs, vv_min, vv_max, vv_inti, vv_intb, vv_stri, vv_strs, vv_lent, vv_lenf, vv_lens, vv_htup, vv_hlen, vv_is_non_bool, vv_is_non_int, vv_is_non_str, vv_is_non_tuple, vv_is_bl_bool, vv_is_bl_int, vv_is_bl_str, vv_is_bl_tuple, vv_is_int_bool, vv_is_int_int, vv_is_int_str, vv_is_int_tuple, vv_is_str_bool, vv_is_str_int, vv_is_str_str, vv_is_str_tuple, vv_is_tup_bool, vv_is_tup_int, vv_is_tup_str, vv_is_tup_tuple, vv_is_frz_bool, vv_is_frz_int, vv_is_frz_str, vv_is_frz_tuple, vv_iss, vv_items_t, vv_items_f, vv_spl, vv_fmts, vv_fmti, vv_cats, vv_cast0, vv_cast1, vv_cast2, vv_cast3, vv_cast4, vv_cast5, vv_cast6, vv_cast7, vv_cast8, vv_cast9, vv_cast10, vv_cast11, vv_line0, vv_line1, vv_line2, vv_line3, vv_line4, vv_line5, vv_line6, vv_line7, vv_line8, vv_isl, vv_isl1, vv_lenl, vv_lenl1, vv_tupl, vv_tupl1, vv_items_l, vv_items_l1, vv_lst_f, vv_lst_l, vv_lst_l1, vv_app, vv_app1, vv_pop0, vv_pop01, vv_ins0, vv_ins01, vv_mull, vv_mull0, vv_mull1, vv_addl, vv_addl1, vv_slf, vv_slt, List.getElem?_cons_zero, List.getElem?_cons_succ, List.set_cons_zero, List.set_cons_succ, List.map_cons, List.map_nil, List.length_cons, List.length_nil, List.replicate_succ, List.replicate_zero, List.cons_append, List.nil_append, List.append_nil, Option.map_some, Option.map_none, Option.bind_some, Nat.reduceSub, Nat.reduceAdd, Nat.reduceMul, Nat.reduceLeDiff, Nat.zero_le, Int.reduceLT, Int.reduceLE, Int.reduceNeg, Int.reduceAdd, Int.reduceEq, Int.reduceMul, Int.reduceSub, eq_self, Bool.not_true, Bool.not_false, Bool.and_true, Bool.true_and, Bool.and_false, Bool.false_and, Bool.or_true, Bool.true_or, Bool.or_false, Bool.false_or, decide_true, decide_false, if_true, if_false, ite_true, ite_false, Bool.false_eq_true, and_true, true_and, and_false, false_and, not_true_eq_false, not_false_eq_true]
  · have ix := ix_str0 (s := s) e hz
    have q1 : ¬ (⟨#[c]⟩ : Str) = "0" := fun q => hc (by
      have := congrArg TL.tl q
      rw [z0] at this
      simpa [TL.tl] using this)
    simp only [hz, b1, b2, c1, al, fi, ix, q1, ev_var, ev_var1, ev_c, ev_vout, ev_bin, ev_bin1, ev_bin2, ev_un, ev_un1, ev_lnil, ev_lcons, ev_lcons1, ev_lcons2, ev_ldef, ev_ldef1, ev_lstar, ev_lstar1, ev_lstar1b, ev_lstar2, ev_tup, ev_tup1, ev_lst, ev_lst1, ev_lchk, ev_lchk1, ev_call, ev_call1, ev_g, ev_b, ev_b1, ev_tmp, ev_tmp1, ev_comp, ev_comp1, ev_if, ev_if1t, ev_if1f, ev_bt, ev_bt1, ev_bt2, ev_bv, ev_bv1, ev_bnot, ev_bnot1, ev_band, ev_band1t, ev_band1f, ev_bor, ev_bor1t, ev_bor1f, ev_byes, ev_eand, ev_eand1, ev_eand2t, ev_eand2f, ev_eor, ev_eor1, ev_eor2t, ev_eor2f, ev_enot, ev_enot1, ev_enot2, ev_ch, ev_ch1, ev_ch2, ev_ch3t, ev_ch3f, ev_ch4, ev_m, ev_m1, ev_m2, ev_m3, ev_jo, ev_jo1, ev_jo2, ev_fs, ev_jfn, ev_jfc, ev_jf1, ev_dct, ev_kvn, ev_kvc, ev_kv1, ev_kv2, ev_kv3, ev_dct1, ev_pn, ev_ps, ev_ps1, ev_sl, ev_sl1, ev_sl2, ev_sl3, ev_snil, ev_seq, ev_seqn, ev_seqr, ev_seqb, ev_seqc, ev_seqx, ev_sex, ev_sex1, ev_ret, ev_ret1, ev_retn, ev_sif, ev_sif1t, ev_sif1f, ev_brk, ev_cnt, ev_asg, ev_asg1, ev_gnm, ev_gnil, ev_gcons, ev_gcons1, ev_gtp, ev_gst, ev_gst1, ev_gsub, ev_gsub1, ev_gsub2, ev_gsub3, ev_par, ev_par1, ev_par3, ev_par31, ev_aug, ev_aug1, ev_aug2, ev_aug3, ev_for, ev_for1, ev_lcomp, ev_lcomp1, ev_wipn, ev_wipc, ev_iseq, ev_iseq1, ev_seqt, ev_seqf, ev_seqs, ev_seql, ev_seql1, ev_rg1, ev_rg11, ev_rg2, ev_rg21, ev_en, ev_en1, ev_en2, ev_outr, ev_outn, ev_outx, ev_ixi, ev_ixk, ev_ixl, ev_ixll, ev_ixld, ev_ixkk, ev_ix1, ev_ixt, ev_ixf, vv_oAdd, vv_oAddI, vv_oSub, vv_oLt, vv_oLe, vv_oGt, vv_oGe, vv_oEq, vv_oNe, vv_eqs, vv_nes, vv_eqns, vv_isn, vv_notn, vv_in_non, vv_in_bl, vv_in_int, vv_in_str, vv_in_tup, vv_in_frz, vv_in_loc, vv_neg, vv_tb, vv_ti, vv_tn, vv_tt, vv_tf, vv_mul, vv_div, vv_mod, vv_pow7, vv_pow8, vv_pow9, vv_pow18, vv_pow12, vv_pow6, vv_pow5, vv_pow4, vv_pow10, vv_pow16, vv_abs, vv_min, vv_max, vv_inti, vv_intb, vv_stri, vv_strs, vv_lent, vv_lenf, vv_lens, vv_htup, vv_hlen, vv_is_non_bool, vv_is_non_int, vv_is_non_str, vv_is_non_tuple, vv_is_bl_bool, vv_is_bl_int, vv_is_bl_str, vv_is_bl_tuple, vv_is_int_bool, vv_is_int_int, vv_is_int_str, vv_is_int_tuple, vv_is_str_bool, vv_is_str_int, vv_is_str_str, vv_is_str_tuple, vv_is_tup_bool, vv_is_tup_int, vv_is_tup_str, vv_is_tup_tuple, vv_is_frz_bool, vv_is_frz_int, vv_is_frz_str, vv_is_frz_tuple, vv_iss, vv_items_t, vv_items_f, vv_spl, vv_fmts, vv_fmti, vv_cats, vv_cast0, vv_cast1, vv_cast2, vv_cast3, vv_cast4, vv_cast5, vv_cast6, vv_cast7, vv_cast8, vv_cast9, vv_cast10, vv_cast11, vv_line0, vv_line1, vv_line2, vv_line3, vv_line4, vv_line5, vv_line6, vv_line7, vv_line8, vv_isl, vv_isl1, vv_lenl, vv_lenl1, vv_tupl, vv_tupl1, vv_items_l, vv_items_l1, vv_lst_f, vv_lst_l, vv_lst_l1, vv_app, vv_app1, vv_pop0, vv_pop01, vv_ins0, vv_ins01, vv_mull, vv_mull0, vv_mull1, vv_addl, vv_addl1, vv_slf, vv_slt, List.getElem?_cons_zero, List.getElem?_cons_succ, List.set_cons_zero, List.set_cons_succ, List.map_cons, List.map_nil, List.length_cons, List.length_nil, List.replicate_succ, List.replicate_zero, List.cons_append, List.nil_append, List.append_nil, Option.map_some, Option.map_none, Option.bind_some, Nat.reduceSub, Nat.reduceAdd, Nat.reduceMul, Nat.reduceLeDiff, Nat.zero_le, Int.reduceLT, Int.reduceLE, Int.reduceNeg, Int.reduceAdd, Int.reduceEq, Int.reduceMul, Int.reduceSub, eq_self, Bool.not_true, Bool.not_false, Bool.and_true, Bool.true_and, Bool.and_false, Bool.false_and, Bool.or_true, Bool.true_or, Bool.or_false, Bool.false_or, decide_true, decide_false, if_true, if_false, ite_true, ite_false, Bool.false_eq_true, and_true, true_and, and_false, false_and, not_true_eq_false, not_false_eq_true]
theorem wordsplit {a b sg : Str} {c : Nat} (ey : TL.tl sg = [c]) (hc : c < 256) (h1 : c ∉ TL.tl a) (h2 : c ∉ TL.tl b) (hl : (a ++ sg ++ b).length ≤ 1000) : mSplit (.str (a ++ sg ++ b)) [.str sg] s = some (.loc s.len, s.add (.lst [.str a, .str b])) := by
  have e : (sg.length == 0) = false := by rw [TL.len_tl, ey]; rfl
  rw [vv_spl ⟨e, by rw [sizeLine_eq]; omega⟩, split2 ey hc h1 h2]
  rfl
theorem num_free {i : Int} {c : Nat} (h : 0 ≤ i) (hc : c < 48 ∨ 57 < c) : c ∉ TL.tl (num i) := fun m => by have := num_digits h c m; omega
theorem read_two {a b : Int} {sg : Str} {c : Nat} (ey : TL.tl sg = [c]) (hc : c < 48 ∨ 57 < c) (hc2 : c < 256) (ha : 0 ≤ a) (ha2 : a < 10000000000) (hb : 0 ≤ b) (hb2 : b < 10000000000) : run pr (k + 2) "read_pair" [.str (num a ++ sg ++ num b), .str sg] s = .ok (.tup [.int a, .int b]) s := by
  have la := num_len ha ha2
  have lb := num_len hb hb2
  have ls : sg.length = 1 := by rw [TL.len_tl, ey]; rfl
  have sp := wordsplit (s := s) ey hc2 (num_free ha hc) (num_free hb hc) (by rw [len_app, len_app]; omega)
  let s1 := s.add (.lst [.str (num a), .str (num b)])
  have g1 : s1.get s.len = some (.lst [.str (num a), .str (num b)]) := get_add
  have c1 : compL (chkL s.len [.str (num a), .str (num b)]) (gNm 3) bYes (eCall (run pr (k + 1)) "read_integer" (lDef (lCons (eVar 3) lNil) [])) [some (.str (num a ++ sg ++ num b)), some (.str sg), none, none] ([(num a, a), (num b, b)].map fun q : Str × Int => T.str q.1) [] s1 = .ok ([] ++ [(num a, a), (num b, b)].map fun q : Str × Int => T.int q.2) s1 :=
    compL_map (chkL_iff.mpr g1) _ [] (fun q hq => ⟨[some (.str (num a ++ sg ++ num b)), some (.str sg), none, some (.str q.1)], rfl, by
      simp only [List.mem_cons, List.not_mem_nil, or_false] at hq
      rcases hq with rfl | rfl
      · simp only [read_int ha ha2, ev_var, ev_var1, ev_c, ev_vout, ev_bin, ev_bin1, ev_bin2, ev_un, ev_un1, ev_lnil, ev_lcons, ev_lcons1, ev_lcons2, ev_ldef, ev_ldef1, ev_lstar, ev_lstar1, ev_lstar1b, ev_lstar2, ev_tup, ev_tup1, ev_lst, ev_lst1, ev_lchk, ev_lchk1, ev_call, ev_call1, ev_g, ev_b, ev_b1, ev_tmp, ev_tmp1, ev_comp, ev_comp1, ev_if, ev_if1t, ev_if1f, ev_bt, ev_bt1, ev_bt2, ev_bv, ev_bv1, ev_bnot, ev_bnot1, ev_band, ev_band1t, ev_band1f, ev_bor, ev_bor1t, ev_bor1f, ev_byes, ev_eand, ev_eand1, ev_eand2t, ev_eand2f, ev_eor, ev_eor1, ev_eor2t, ev_eor2f, ev_enot, ev_enot1, ev_enot2, ev_ch, ev_ch1, ev_ch2, ev_ch3t, ev_ch3f, ev_ch4, ev_m, ev_m1, ev_m2, ev_m3, ev_jo, ev_jo1, ev_jo2, ev_fs, ev_jfn, ev_jfc, ev_jf1, ev_dct, ev_kvn, ev_kvc, ev_kv1, ev_kv2, ev_kv3, ev_dct1, ev_pn, ev_ps, ev_ps1, ev_sl, ev_sl1, ev_sl2, ev_sl3, ev_snil, ev_seq, ev_seqn, ev_seqr, ev_seqb, ev_seqc, ev_seqx, ev_sex, ev_sex1, ev_ret, ev_ret1, ev_retn, ev_sif, ev_sif1t, ev_sif1f, ev_brk, ev_cnt, ev_asg, ev_asg1, ev_gnm, ev_gnil, ev_gcons, ev_gcons1, ev_gtp, ev_gst, ev_gst1, ev_gsub, ev_gsub1, ev_gsub2, ev_gsub3, ev_par, ev_par1, ev_par3, ev_par31, ev_aug, ev_aug1, ev_aug2, ev_aug3, ev_for, ev_for1, ev_lcomp, ev_lcomp1, ev_wipn, ev_wipc, ev_iseq, ev_iseq1, ev_seqt, ev_seqf, ev_seqs, ev_seql, ev_seql1, ev_rg1, ev_rg11, ev_rg2, ev_rg21, ev_en, ev_en1, ev_en2, ev_outr, ev_outn, ev_outx, ev_ixi, ev_ixk, ev_ixl, ev_ixll, ev_ixld, ev_ixkk, ev_ix1, ev_ixt, ev_ixf, vv_oAdd, vv_oAddI, vv_oSub, vv_oLt, vv_oLe, vv_oGt, vv_oGe, vv_oEq, vv_oNe, vv_eqs, vv_nes, vv_eqns, vv_isn, vv_notn, vv_in_non, vv_in_bl, vv_in_int, vv_in_str, vv_in_tup, vv_in_frz, vv_in_loc, vv_neg, vv_tb, vv_ti, vv_tn, vv_tt, vv_tf, vv_mul, vv_div, vv_mod, vv_pow7, vv_pow8, vv_pow9, vv_pow18, vv_pow12, vv_pow6, vv_pow5, vv_pow4, vv_pow10, vv_pow16, vv_abs, vv_min, vv_max, vv_inti, vv_intb, vv_stri, vv_strs, vv_lent, vv_lenf, vv_lens, vv_htup, vv_hlen, vv_is_non_bool, vv_is_non_int, vv_is_non_str, vv_is_non_tuple, vv_is_bl_bool, vv_is_bl_int, vv_is_bl_str, vv_is_bl_tuple, vv_is_int_bool, vv_is_int_int, vv_is_int_str, vv_is_int_tuple, vv_is_str_bool, vv_is_str_int, vv_is_str_str, vv_is_str_tuple, vv_is_tup_bool, vv_is_tup_int, vv_is_tup_str, vv_is_tup_tuple, vv_is_frz_bool, vv_is_frz_int, vv_is_frz_str, vv_is_frz_tuple, vv_iss, vv_items_t, vv_items_f, vv_spl, vv_fmts, vv_fmti, vv_cats, vv_cast0, vv_cast1, vv_cast2, vv_cast3, vv_cast4, vv_cast5, vv_cast6, vv_cast7, vv_cast8, vv_cast9, vv_cast10, vv_cast11, vv_line0, vv_line1, vv_line2, vv_line3, vv_line4, vv_line5, vv_line6, vv_line7, vv_line8, vv_isl, vv_isl1, vv_lenl, vv_lenl1, vv_tupl, vv_tupl1, vv_items_l, vv_items_l1, vv_lst_f, vv_lst_l, vv_lst_l1, vv_app, vv_app1, vv_pop0, vv_pop01, vv_ins0, vv_ins01, vv_mull, vv_mull0, vv_mull1, vv_addl, vv_addl1, vv_slf, vv_slt, List.getElem?_cons_zero, List.getElem?_cons_succ, List.set_cons_zero, List.set_cons_succ, List.map_cons, List.map_nil, List.length_cons, List.length_nil, List.replicate_succ, List.replicate_zero, List.cons_append, List.nil_append, List.append_nil, Option.map_some, Option.map_none, Option.bind_some, Nat.reduceSub, Nat.reduceAdd, Nat.reduceMul, Nat.reduceLeDiff, Nat.zero_le, Int.reduceLT, Int.reduceLE, Int.reduceNeg, Int.reduceAdd, Int.reduceEq, Int.reduceMul, Int.reduceSub, eq_self, Bool.not_true, Bool.not_false, Bool.and_true, Bool.true_and, Bool.and_false, Bool.false_and, Bool.or_true, Bool.true_or, Bool.or_false, Bool.false_or, decide_true, decide_false, if_true, if_false, ite_true, ite_false, Bool.false_eq_true, and_true, true_and, and_false, false_and, not_true_eq_false, not_false_eq_true]
      · simp only [read_int hb hb2, ev_var, ev_var1, ev_c, ev_vout, ev_bin, ev_bin1, ev_bin2, ev_un, ev_un1, ev_lnil, ev_lcons, ev_lcons1, ev_lcons2, ev_ldef, ev_ldef1, ev_lstar, ev_lstar1, ev_lstar1b, ev_lstar2, ev_tup, ev_tup1, ev_lst, ev_lst1, ev_lchk, ev_lchk1, ev_call, ev_call1, ev_g, ev_b, ev_b1, ev_tmp, ev_tmp1, ev_comp, ev_comp1, ev_if, ev_if1t, ev_if1f, ev_bt, ev_bt1, ev_bt2, ev_bv, ev_bv1, ev_bnot, ev_bnot1, ev_band, ev_band1t, ev_band1f, ev_bor, ev_bor1t, ev_bor1f, ev_byes, ev_eand, ev_eand1, ev_eand2t, ev_eand2f, ev_eor, ev_eor1, ev_eor2t, ev_eor2f, ev_enot, ev_enot1, ev_enot2, ev_ch, ev_ch1, ev_ch2, ev_ch3t, ev_ch3f, ev_ch4, ev_m, ev_m1, ev_m2, ev_m3, ev_jo, ev_jo1, ev_jo2, ev_fs, ev_jfn, ev_jfc, ev_jf1, ev_dct, ev_kvn, ev_kvc, ev_kv1, ev_kv2, ev_kv3, ev_dct1, ev_pn, ev_ps, ev_ps1, ev_sl, ev_sl1, ev_sl2, ev_sl3, ev_snil, ev_seq, ev_seqn, ev_seqr, ev_seqb, ev_seqc, ev_seqx, ev_sex, ev_sex1, ev_ret, ev_ret1, ev_retn, ev_sif, ev_sif1t, ev_sif1f, ev_brk, ev_cnt, ev_asg, ev_asg1, ev_gnm, ev_gnil, ev_gcons, ev_gcons1, ev_gtp, ev_gst, ev_gst1, ev_gsub, ev_gsub1, ev_gsub2, ev_gsub3, ev_par, ev_par1, ev_par3, ev_par31, ev_aug, ev_aug1, ev_aug2, ev_aug3, ev_for, ev_for1, ev_lcomp, ev_lcomp1, ev_wipn, ev_wipc, ev_iseq, ev_iseq1, ev_seqt, ev_seqf, ev_seqs, ev_seql, ev_seql1, ev_rg1, ev_rg11, ev_rg2, ev_rg21, ev_en, ev_en1, ev_en2, ev_outr, ev_outn, ev_outx, ev_ixi, ev_ixk, ev_ixl, ev_ixll, ev_ixld, ev_ixkk, ev_ix1, ev_ixt, ev_ixf, vv_oAdd, vv_oAddI, vv_oSub, vv_oLt, vv_oLe, vv_oGt, vv_oGe, vv_oEq, vv_oNe, vv_eqs, vv_nes, vv_eqns, vv_isn, vv_notn, vv_in_non, vv_in_bl, vv_in_int, vv_in_str, vv_in_tup, vv_in_frz, vv_in_loc, vv_neg, vv_tb, vv_ti, vv_tn, vv_tt, vv_tf, vv_mul, vv_div, vv_mod, vv_pow7, vv_pow8, vv_pow9, vv_pow18, vv_pow12, vv_pow6, vv_pow5, vv_pow4, vv_pow10, vv_pow16, vv_abs, vv_min, vv_max, vv_inti, vv_intb, vv_stri, vv_strs, vv_lent, vv_lenf, vv_lens, vv_htup, vv_hlen, vv_is_non_bool, vv_is_non_int, vv_is_non_str, vv_is_non_tuple, vv_is_bl_bool, vv_is_bl_int, vv_is_bl_str, vv_is_bl_tuple, vv_is_int_bool, vv_is_int_int, vv_is_int_str, vv_is_int_tuple, vv_is_str_bool, vv_is_str_int, vv_is_str_str, vv_is_str_tuple, vv_is_tup_bool, vv_is_tup_int, vv_is_tup_str, vv_is_tup_tuple, vv_is_frz_bool, vv_is_frz_int, vv_is_frz_str, vv_is_frz_tuple, vv_iss, vv_items_t, vv_items_f, vv_spl, vv_fmts, vv_fmti, vv_cats, vv_cast0, vv_cast1, vv_cast2, vv_cast3, vv_cast4, vv_cast5, vv_cast6, vv_cast7, vv_cast8, vv_cast9, vv_cast10, vv_cast11, vv_line0, vv_line1, vv_line2, vv_line3, vv_line4, vv_line5, vv_line6, vv_line7, vv_line8, vv_isl, vv_isl1, vv_lenl, vv_lenl1, vv_tupl, vv_tupl1, vv_items_l, vv_items_l1, vv_lst_f, vv_lst_l, vv_lst_l1, vv_app, vv_app1, vv_pop0, vv_pop01, vv_ins0, vv_ins01, vv_mull, vv_mull0, vv_mull1, vv_addl, vv_addl1, vv_slf, vv_slt, List.getElem?_cons_zero, List.getElem?_cons_succ, List.set_cons_zero, List.set_cons_succ, List.map_cons, List.map_nil, List.length_cons, List.length_nil, List.replicate_succ, List.replicate_zero, List.cons_append, List.nil_append, List.append_nil, Option.map_some, Option.map_none, Option.bind_some, Nat.reduceSub, Nat.reduceAdd, Nat.reduceMul, Nat.reduceLeDiff, Nat.zero_le, Int.reduceLT, Int.reduceLE, Int.reduceNeg, Int.reduceAdd, Int.reduceEq, Int.reduceMul, Int.reduceSub, eq_self, Bool.not_true, Bool.not_false, Bool.and_true, Bool.true_and, Bool.and_false, Bool.false_and, Bool.or_true, Bool.true_or, Bool.or_false, Bool.false_or, decide_true, decide_false, if_true, if_false, ite_true, ite_false, Bool.false_eq_true, and_true, true_and, and_false, false_and, not_true_eq_false, not_false_eq_true]⟩) (by simp [sizeLine_eq])
  simp only [List.nil_append, List.map_cons, List.map_nil] at c1
  let s2 := s1.add (.lst [.int a, .int b])
  have g2 : s2.get s1.len = some (.lst [.int a, .int b]) := get_add
  have ni : oNotIn .non (.loc s1.len) s2 = some (.bl true, s2) := by
    show (inT s2 _ _).map _ = _
    have : inT s2 .non (.loc s1.len) = some false := by
      unfold inT itemsT
      simp only [g2]
      rfl
    rw [this]; rfl
  refine run_gro pr_read_pair rfl ⟨s2, ?_, Gro.add.trans Gro.add⟩ (Nat.zero_le _)
  unfold b_read_pair
  have q1 : s.add (.lst [.str (num a), .str (num b)]) = s1 := rfl
  have q2 : s1.add (.lst [.int a, .int b]) = s2 := rfl
  simp only [sp, q1, g1, c1, q2, g2, ni, ev_var, ev_var1, ev_c, ev_vout, ev_bin, ev_bin1, ev_bin2, ev_un, ev_un1, ev_lnil, ev_lcons, ev_lcons1, ev_lcons2, ev_ldef, ev_ldef1, ev_lstar, ev_lstar1, ev_lstar1b, ev_lstar2, ev_tup, ev_tup1, ev_lst, ev_lst1, ev_lchk, ev_lchk1, ev_call, ev_call1, ev_g, ev_b, ev_b1, ev_tmp, ev_tmp1, ev_comp, ev_comp1, ev_if, ev_if1t, ev_if1f, ev_bt, ev_bt1, ev_bt2, ev_bv, ev_bv1, ev_bnot, ev_bnot1, ev_band, ev_band1t, ev_band1f, ev_bor, ev_bor1t, ev_bor1f, ev_byes, ev_eand, ev_eand1, ev_eand2t, ev_eand2f, ev_eor, ev_eor1, ev_eor2t, ev_eor2f, ev_enot, ev_enot1, ev_enot2, ev_ch, ev_ch1, ev_ch2, ev_ch3t, ev_ch3f, ev_ch4, ev_m, ev_m1, ev_m2, ev_m3, ev_jo, ev_jo1, ev_jo2, ev_fs, ev_jfn, ev_jfc, ev_jf1, ev_dct, ev_kvn, ev_kvc, ev_kv1, ev_kv2, ev_kv3, ev_dct1, ev_pn, ev_ps, ev_ps1, ev_sl, ev_sl1, ev_sl2, ev_sl3, ev_snil, ev_seq, ev_seqn, ev_seqr, ev_seqb, ev_seqc, ev_seqx, ev_sex, ev_sex1, ev_ret, ev_ret1, ev_retn, ev_sif, ev_sif1t, ev_sif1f, ev_brk, ev_cnt, ev_asg, ev_asg1, ev_gnm, ev_gnil, ev_gcons, ev_gcons1, ev_gtp, ev_gst, ev_gst1, ev_gsub, ev_gsub1, ev_gsub2, ev_gsub3, ev_par, ev_par1, ev_par3, ev_par31, ev_aug, ev_aug1, ev_aug2, ev_aug3, ev_for, ev_for1, ev_lcomp, ev_lcomp1, ev_wipn, ev_wipc, ev_iseq, ev_iseq1, ev_seqt, ev_seqf, ev_seqs, ev_seql, ev_seql1, ev_rg1, ev_rg11, ev_rg2, ev_rg21, ev_en, ev_en1, ev_en2, ev_outr, ev_outn, ev_outx, ev_ixi, ev_ixk, ev_ixl, ev_ixll, ev_ixld, ev_ixkk, ev_ix1, ev_ixt, ev_ixf, vv_oAdd, vv_oAddI, vv_oSub, vv_oLt, vv_oLe, vv_oGt, vv_oGe, vv_oEq, vv_oNe, vv_eqs, vv_nes, vv_eqns, vv_isn, vv_notn, vv_in_non, vv_in_bl, vv_in_int, vv_in_str, vv_in_tup, vv_in_frz, vv_in_loc, vv_neg, vv_tb, vv_ti, vv_tn, vv_tt, vv_tf, vv_mul, vv_div, vv_mod, vv_pow7, vv_pow8, vv_pow9, vv_pow18, vv_pow12, vv_pow6, vv_pow5, vv_pow4, vv_pow10, vv_pow16, vv_abs, vv_min, vv_max, vv_inti, vv_intb, vv_stri, vv_strs, vv_lent, vv_lenf, vv_lens, vv_htup, vv_hlen, vv_is_non_bool, vv_is_non_int, vv_is_non_str, vv_is_non_tuple, vv_is_bl_bool, vv_is_bl_int, vv_is_bl_str, vv_is_bl_tuple, vv_is_int_bool, vv_is_int_int, vv_is_int_str, vv_is_int_tuple, vv_is_str_bool, vv_is_str_int, vv_is_str_str, vv_is_str_tuple, vv_is_tup_bool, vv_is_tup_int, vv_is_tup_str, vv_is_tup_tuple, vv_is_frz_bool, vv_is_frz_int, vv_is_frz_str, vv_is_frz_tuple, vv_iss, vv_items_t, vv_items_f, vv_spl, vv_fmts, vv_fmti, vv_cats, vv_cast0, vv_cast1, vv_cast2, vv_cast3, vv_cast4, vv_cast5, vv_cast6, vv_cast7, vv_cast8, vv_cast9, vv_cast10, vv_cast11, vv_line0, vv_line1, vv_line2, vv_line3, vv_line4, vv_line5, vv_line6, vv_line7, vv_line8, vv_isl, vv_isl1, vv_lenl, vv_lenl1, vv_tupl, vv_tupl1, vv_items_l, vv_items_l1, vv_lst_f, vv_lst_l, vv_lst_l1, vv_app, vv_app1, vv_pop0, vv_pop01, vv_ins0, vv_ins01, vv_mull, vv_mull0, vv_mull1, vv_addl, vv_addl1, vv_slf, vv_slt, List.getElem?_cons_zero, List.getElem?_cons_succ, List.set_cons_zero, List.set_cons_succ, List.map_cons, List.map_nil, List.length_cons, List.length_nil, List.replicate_succ, List.replicate_zero, List.cons_append, List.nil_append, List.append_nil, Option.map_some, Option.map_none, Option.bind_some, Nat.reduceSub, Nat.reduceAdd, Nat.reduceMul, Nat.reduceLeDiff, Nat.zero_le, Int.reduceLT, Int.reduceLE, Int.reduceNeg, Int.reduceAdd, Int.reduceEq, Int.reduceMul, Int.reduceSub, eq_self, Bool.not_true, Bool.not_false, Bool.and_true, Bool.true_and, Bool.and_false, Bool.false_and, Bool.or_true, Bool.true_or, Bool.or_false, Bool.false_or, decide_true, decide_false, if_true, if_false, ite_true, ite_false, Bool.false_eq_true, and_true, true_and, and_false, false_and, not_true_eq_false, not_false_eq_true]
end
end K71

set_option maxRecDepth 100000
set_option maxHeartbeats 4000000
namespace K71
open PySem PySem.Spec PyProof.Rows L2 Fx
section
variable {d n k : Nat} {s : Sto}
theorem at0 {t : T} {ts : List T} : atT (t :: ts) 0 = some t := by simp [Fx.atT, ixN]
theorem at1 {t u : T} {ts : List T} : atT (t :: u :: ts) 1 = some u := by
  obtain ⟨v, h1, h2⟩ := atT_of (ts := t :: u :: ts) (i := 1) (by decide) (by simp only [List.length_cons]; omega)
  rw [h1]; simpa using h2.symm
theorem in_kinds {z : Str} (h : z = "hold" ∨ z = "pulse") : oIn (.str z) (.tup [.str "hold", .str "pulse"]) s = some (.bl true, s) := by
  show (inT s _ _).map _ = _
  have e : inT s (.str z) (.tup [.str "hold", .str "pulse"]) = some true := by
    unfold inT
    simp only [vv_items_t]
    rcases h with rfl | rfl <;> rfl
  rw [e]; rfl
theorem is_lamp_ok {q : Str × Int} (h : okL q) : run pr (k + 2) "is_lamp" [encL q] s = .ok (.bl true) s := by
  obtain ⟨h1, h2, h3⟩ := h
  refine run_pure pr_is_lamp rfl ?_
  unfold b_is_lamp
  simp only [encL, at0, at1, in_kinds h1, is_integer_int, h2, h3, ev_var, ev_var1, ev_c, ev_vout, ev_bin, ev_bin1, ev_bin2, ev_un, ev_un1, ev_lnil, ev_lcons, ev_lcons1, ev_lcons2, ev_ldef, ev_ldef1, ev_lstar, ev_lstar1, ev_lstar1b, ev_lstar2, ev_tup, ev_tup1, ev_lst, ev_lst1, ev_lchk, ev_lchk1, ev_call, ev_call1, ev_g, ev_b, ev_b1, ev_tmp, ev_tmp1, ev_comp, ev_comp1, ev_if, ev_if1t, ev_if1f, ev_bt, ev_bt1, ev_bt2, ev_bv, ev_bv1, ev_bnot, ev_bnot1, ev_band, ev_band1t, ev_band1f, ev_bor, ev_bor1t, ev_bor1f, ev_byes, ev_eand, ev_eand1, ev_eand2t, ev_eand2f, ev_eor, ev_eor1, ev_eor2t, ev_eor2f, ev_enot, ev_enot1, ev_enot2, ev_ch, ev_ch1, ev_ch2, ev_ch3t, ev_ch3f, ev_ch4, ev_m, ev_m1, ev_m2, ev_m3, ev_jo, ev_jo1, ev_jo2, ev_fs, ev_jfn, ev_jfc, ev_jf1, ev_dct, ev_kvn, ev_kvc, ev_kv1, ev_kv2, ev_kv3, ev_dct1, ev_pn, ev_ps, ev_ps1, ev_sl, ev_sl1, ev_sl2, ev_sl3, ev_snil, ev_seq, ev_seqn, ev_seqr, ev_seqb, ev_seqc, ev_seqx, ev_sex, ev_sex1, ev_ret, ev_ret1, ev_retn, ev_sif, ev_sif1t, ev_sif1f, ev_brk, ev_cnt, ev_asg, ev_asg1, ev_gnm, ev_gnil, ev_gcons, ev_gcons1, ev_gtp, ev_gst, ev_gst1, ev_gsub, ev_gsub1, ev_gsub2, ev_gsub3, ev_par, ev_par1, ev_par3, ev_par31, ev_aug, ev_aug1, ev_aug2, ev_aug3, ev_for, ev_for1, ev_lcomp, ev_lcomp1, ev_wipn, ev_wipc, ev_iseq, ev_iseq1, ev_seqt, ev_seqf, ev_seqs, ev_seql, ev_seql1, ev_rg1, ev_rg11, ev_rg2, ev_rg21, ev_en, ev_en1, ev_en2, ev_outr, ev_outn, ev_outx, ev_ixi, ev_ixk, ev_ixl, ev_ixll, ev_ixld, ev_ixkk, ev_ix1, ev_ixt, ev_ixf, vv_oAdd, vv_oAddI, vv_oSub, vv_oLt, vv_oLe, vv_oGt, vv_oGe, vv_oEq, vv_oNe, vv_eqs, vv_nes, vv_eqns, vv_isn, vv_notn, vv_in_non, vv_in_bl, vv_in_int, vv_in_str, vv_in_tup, vv_in_frz, vv_in_loc, vv_neg, vv_tb, vv_ti, vv_tn, vv_tt, vv_tf, vv_mul, vv_div, vv_mod, vv_pow7, vv_pow8, vv_pow9, vv_pow18, vv_pow12, vv_pow6, vv_pow5, vv_pow4, vv_pow10, vv_pow16, vv_abs, vv_min, vv_max, vv_inti, vv_intb, vv_stri, vv_strs, vv_lent, vv_lenf, vv_lens, vv_htup, vv_hlen, vv_is_non_bool, vv_is_non_int, vv_is_non_str, vv_is_non_tuple, vv_is_bl_bool, vv_is_bl_int, vv_is_bl_str, vv_is_bl_tuple, vv_is_int_bool, vv_is_int_int, vv_is_int_str, vv_is_int_tuple, vv_is_str_bool, vv_is_str_int, vv_is_str_str, vv_is_str_tuple, vv_is_tup_bool, vv_is_tup_int, vv_is_tup_str, vv_is_tup_tuple, vv_is_frz_bool, vv_is_frz_int, vv_is_frz_str, vv_is_frz_tuple, vv_iss, vv_items_t, vv_items_f, vv_spl, vv_fmts, vv_fmti, vv_cats, vv_cast0, vv_cast1, vv_cast2, vv_cast3, vv_cast4, vv_cast5, vv_cast6, vv_cast7, vv_cast8, vv_cast9, vv_cast10, vv_cast11, vv_line0, vv_line1, vv_line2, vv_line3, vv_line4, vv_line5, vv_line6, vv_line7, vv_line8, vv_isl, vv_isl1, vv_lenl, vv_lenl1, vv_tupl, vv_tupl1, vv_items_l, vv_items_l1, vv_lst_f, vv_lst_l, vv_lst_l1, vv_app, vv_app1, vv_pop0, vv_pop01, vv_ins0, vv_ins01, vv_mull, vv_mull0, vv_mull1, vv_addl, vv_addl1, vv_slf, vv_slt, List.getElem?_cons_zero, List.getElem?_cons_succ, List.set_cons_zero, List.set_cons_succ, List.map_cons, List.map_nil, List.length_cons, List.length_nil, List.replicate_succ, List.replicate_zero, List.cons_append, List.nil_append, List.append_nil, Option.map_some, Option.map_none, Option.bind_some, Nat.reduceSub, Nat.reduceAdd, Nat.reduceMul, Nat.reduceLeDiff, Nat.zero_le, Int.reduceLT, Int.reduceLE, Int.reduceNeg, Int.reduceAdd, Int.reduceEq, Int.reduceMul, Int.reduceSub, eq_self, Bool.not_true, Bool.not_false, Bool.and_true, Bool.true_and, Bool.and_false, Bool.false_and, Bool.or_true, Bool.true_or, Bool.or_false, Bool.false_or, decide_true, decide_false, if_true, if_false, ite_true, ite_false, Bool.false_eq_true, and_true, true_and, and_false, false_and, not_true_eq_false, not_false_eq_true]
def encP (q : Int × Int) : T := .tup [.int q.1, .int q.2]
def okP (q : Int × Int) : Prop := 0 ≤ q.1 ∧ q.1 < q.2 ∧ q.2 ≤ 2000000000
theorem is_stretch_ok {q : Int × Int} (h : okP q) : run pr (k + 2) "is_stretch" [encP q] s = .ok (.bl true) s := by
  obtain ⟨h1, h2, h3⟩ := h
  have h4 : q.1 ≤ 2000000000 := by omega
  have h5 : q.1 + 1 ≤ q.2 := by omega
  refine run_pure pr_is_stretch rfl ?_
  unfold b_is_stretch
  simp only [encP, at0, at1, is_integer_int, h1, h3, h4, h5, ev_var, ev_var1, ev_c, ev_vout, ev_bin, ev_bin1, ev_bin2, ev_un, ev_un1, ev_lnil, ev_lcons, ev_lcons1, ev_lcons2, ev_ldef, ev_ldef1, ev_lstar, ev_lstar1, ev_lstar1b, ev_lstar2, ev_tup, ev_tup1, ev_lst, ev_lst1, ev_lchk, ev_lchk1, ev_call, ev_call1, ev_g, ev_b, ev_b1, ev_tmp, ev_tmp1, ev_comp, ev_comp1, ev_if, ev_if1t, ev_if1f, ev_bt, ev_bt1, ev_bt2, ev_bv, ev_bv1, ev_bnot, ev_bnot1, ev_band, ev_band1t, ev_band1f, ev_bor, ev_bor1t, ev_bor1f, ev_byes, ev_eand, ev_eand1, ev_eand2t, ev_eand2f, ev_eor, ev_eor1, ev_eor2t, ev_eor2f, ev_enot, ev_enot1, ev_enot2, ev_ch, ev_ch1, ev_ch2, ev_ch3t, ev_ch3f, ev_ch4, ev_m, ev_m1, ev_m2, ev_m3, ev_jo, ev_jo1, ev_jo2, ev_fs, ev_jfn, ev_jfc, ev_jf1, ev_dct, ev_kvn, ev_kvc, ev_kv1, ev_kv2, ev_kv3, ev_dct1, ev_pn, ev_ps, ev_ps1, ev_sl, ev_sl1, ev_sl2, ev_sl3, ev_snil, ev_seq, ev_seqn, ev_seqr, ev_seqb, ev_seqc, ev_seqx, ev_sex, ev_sex1, ev_ret, ev_ret1, ev_retn, ev_sif, ev_sif1t, ev_sif1f, ev_brk, ev_cnt, ev_asg, ev_asg1, ev_gnm, ev_gnil, ev_gcons, ev_gcons1, ev_gtp, ev_gst, ev_gst1, ev_gsub, ev_gsub1, ev_gsub2, ev_gsub3, ev_par, ev_par1, ev_par3, ev_par31, ev_aug, ev_aug1, ev_aug2, ev_aug3, ev_for, ev_for1, ev_lcomp, ev_lcomp1, ev_wipn, ev_wipc, ev_iseq, ev_iseq1, ev_seqt, ev_seqf, ev_seqs, ev_seql, ev_seql1, ev_rg1, ev_rg11, ev_rg2, ev_rg21, ev_en, ev_en1, ev_en2, ev_outr, ev_outn, ev_outx, ev_ixi, ev_ixk, ev_ixl, ev_ixll, ev_ixld, ev_ixkk, ev_ix1, ev_ixt, ev_ixf, vv_oAdd, vv_oAddI, vv_oSub, vv_oLt, vv_oLe, vv_oGt, vv_oGe, vv_oEq, vv_oNe, vv_eqs, vv_nes, vv_eqns, vv_isn, vv_notn, vv_in_non, vv_in_bl, vv_in_int, vv_in_str, vv_in_tup, vv_in_frz, vv_in_loc, vv_neg, vv_tb, vv_ti, vv_tn, vv_tt, vv_tf, vv_mul, vv_div, vv_mod, vv_pow7, vv_pow8, vv_pow9, vv_pow18, vv_pow12, vv_pow6, vv_pow5, vv_pow4, vv_pow10, vv_pow16, vv_abs, vv_min, vv_max, vv_inti, vv_intb, vv_stri, vv_strs, vv_lent, vv_lenf, vv_lens, vv_htup, vv_hlen, vv_is_non_bool, vv_is_non_int, vv_is_non_str, vv_is_non_tuple, vv_is_bl_bool, vv_is_bl_int, vv_is_bl_str, vv_is_bl_tuple, vv_is_int_bool, vv_is_int_int, vv_is_int_str, vv_is_int_tuple, vv_is_str_bool, vv_is_str_int, vv_is_str_str, vv_is_str_tuple, vv_is_tup_bool, vv_is_tup_int, vv_is_tup_str, vv_is_tup_tuple, vv_is_frz_bool, vv_is_frz_int, vv_is_frz_str, vv_is_frz_tuple, vv_iss, vv_items_t, vv_items_f, vv_spl, vv_fmts, vv_fmti, vv_cats, vv_cast0, vv_cast1, vv_cast2, vv_cast3, vv_cast4, vv_cast5, vv_cast6, vv_cast7, vv_cast8, vv_cast9, vv_cast10, vv_cast11, vv_line0, vv_line1, vv_line2, vv_line3, vv_line4, vv_line5, vv_line6, vv_line7, vv_line8, vv_isl, vv_isl1, vv_lenl, vv_lenl1, vv_tupl, vv_tupl1, vv_items_l, vv_items_l1, vv_lst_f, vv_lst_l, vv_lst_l1, vv_app, vv_app1, vv_pop0, vv_pop01, vv_ins0, vv_ins01, vv_mull, vv_mull0, vv_mull1, vv_addl, vv_addl1, vv_slf, vv_slt, List.getElem?_cons_zero, List.getElem?_cons_succ, List.set_cons_zero, List.set_cons_succ, List.map_cons, List.map_nil, List.length_cons, List.length_nil, List.replicate_succ, List.replicate_zero, List.cons_append, List.nil_append, List.append_nil, Option.map_some, Option.map_none, Option.bind_some, Nat.reduceSub, Nat.reduceAdd, Nat.reduceMul, Nat.reduceLeDiff, Nat.zero_le, Int.reduceLT, Int.reduceLE, Int.reduceNeg, Int.reduceAdd, Int.reduceEq, Int.reduceMul, Int.reduceSub, eq_self, Bool.not_true, Bool.not_false, Bool.and_true, Bool.true_and, Bool.and_false, Bool.false_and, Bool.or_true, Bool.true_or, Bool.or_false, Bool.false_or, decide_true, decide_false, if_true, if_false, ite_true, ite_false, Bool.false_eq_true, and_true, true_and, and_false, false_and, not_true_eq_false, not_false_eq_true]
def encR (q : Int × Int × Int) : T := .tup [.int q.1, .int q.2.1, .int q.2.2]
def endR (q : Int × Int × Int) : Int := q.1 + q.2.1 * (q.2.2 - 1)
def okR' (q : Int × Int × Int) : Prop := 0 ≤ q.1 ∧ 1 ≤ q.2.1 ∧ q.2.1 ≤ 1000000000 ∧ 1 ≤ q.2.2 ∧ endR q ≤ 1000000000 ∧ (q.2.2 = 1 → q.2.1 = 1)
theorem okR_cnt {q : Int × Int × Int} (h : okR' q) : q.1 ≤ 1000000000 ∧ q.2.2 ≤ 1000000001 := by
  obtain ⟨h1, h2, h3, h4, h5, h6⟩ := h
  unfold endR at h5
  have h7 : 0 ≤ (q.2.1 - 1) * (q.2.2 - 1) := Int.mul_nonneg (by omega) (by omega)
  have h8 : (q.2.1 - 1) * (q.2.2 - 1) = q.2.1 * (q.2.2 - 1) - (q.2.2 - 1) := by rw [Int.sub_mul, Int.one_mul]
  omega
theorem end_of_ok {q : Int × Int × Int} (h : okR' q) : run pr (k + 1) "end_of" [encR q] s = .ok (.int (endR q)) s := by
  have hc := okR_cnt h
  obtain ⟨h1, h2, h3, h4, h5, h6⟩ := h
  have k1 : okN q.2.1 = true := okN_small (by omega) (by omega)
  have k2 : okN (q.2.2 - 1) = true := okN_small (by omega) (by omega)
  refine run_pure pr_end_of rfl ?_
  unfold b_end_of
  simp only [encR, k1, k2, endR, ev_var, ev_var1, ev_c, ev_vout, ev_bin, ev_bin1, ev_bin2, ev_un, ev_un1, ev_lnil, ev_lcons, ev_lcons1, ev_lcons2, ev_ldef, ev_ldef1, ev_lstar, ev_lstar1, ev_lstar1b, ev_lstar2, ev_tup, ev_tup1, ev_lst, ev_lst1, ev_lchk, ev_lchk1, ev_call, ev_call1, ev_g, ev_b, ev_b1, ev_tmp, ev_tmp1, ev_comp, ev_comp1, ev_if, ev_if1t, ev_if1f, ev_bt, ev_bt1, ev_bt2, ev_bv, ev_bv1, ev_bnot, ev_bnot1, ev_band, ev_band1t, ev_band1f, ev_bor, ev_bor1t, ev_bor1f, ev_byes, ev_eand, ev_eand1, ev_eand2t, ev_eand2f, ev_eor, ev_eor1, ev_eor2t, ev_eor2f, ev_enot, ev_enot1, ev_enot2, ev_ch, ev_ch1, ev_ch2, ev_ch3t, ev_ch3f, ev_ch4, ev_m, ev_m1, ev_m2, ev_m3, ev_jo, ev_jo1, ev_jo2, ev_fs, ev_jfn, ev_jfc, ev_jf1, ev_dct, ev_kvn, ev_kvc, ev_kv1, ev_kv2, ev_kv3, ev_dct1, ev_pn, ev_ps, ev_ps1, ev_sl, ev_sl1, ev_sl2, ev_sl3, ev_snil, ev_seq, ev_seqn, ev_seqr, ev_seqb, ev_seqc, ev_seqx, ev_sex, ev_sex1, ev_ret, ev_ret1, ev_retn, ev_sif, ev_sif1t, ev_sif1f, ev_brk, ev_cnt, ev_asg, ev_asg1, ev_gnm, ev_gnil, ev_gcons, ev_gcons1, ev_gtp, ev_gst, ev_gst1, ev_gsub, ev_gsub1, ev_gsub2, ev_gsub3, ev_par, ev_par1, ev_par3, ev_par31, ev_aug, ev_aug1, ev_aug2, ev_aug3, ev_for, ev_for1, ev_lcomp, ev_lcomp1, ev_wipn, ev_wipc, ev_iseq, ev_iseq1, ev_seqt, ev_seqf, ev_seqs, ev_seql, ev_seql1, ev_rg1, ev_rg11, ev_rg2, ev_rg21, ev_en, ev_en1, ev_en2, ev_outr, ev_outn, ev_outx, ev_ixi, ev_ixk, ev_ixl, ev_ixll, ev_ixld, ev_ixkk, ev_ix1, ev_ixt, ev_ixf, vv_oAdd, vv_oAddI, vv_oSub, vv_oLt, vv_oLe, vv_oGt, vv_oGe, vv_oEq, vv_oNe, vv_eqs, vv_nes, vv_eqns, vv_isn, vv_notn, vv_in_non, vv_in_bl, vv_in_int, vv_in_str, vv_in_tup, vv_in_frz, vv_in_loc, vv_neg, vv_tb, vv_ti, vv_tn, vv_tt, vv_tf, vv_mul, vv_div, vv_mod, vv_pow7, vv_pow8, vv_pow9, vv_pow18, vv_pow12, vv_pow6, vv_pow5, vv_pow4, vv_pow10, vv_pow16, vv_abs, vv_min, vv_max, vv_inti, vv_intb, vv_stri, vv_strs, vv_lent, vv_lenf, vv_lens, vv_htup, vv_hlen, vv_is_non_bool, vv_is_non_int, vv_is_non_str, vv_is_non_tuple, vv_is_bl_bool, vv_is_bl_int, vv_is_bl_str, vv_is_bl_tuple, vv_is_int_bool, vv_is_int_int, vv_is_int_str, vv_is_int_tuple, vv_is_str_bool, vv_is_str_int, vv_is_str_str, vv_is_str_tuple, vv_is_tup_bool, vv_is_tup_int, vv_is_tup_str, vv_is_tup_tuple, vv_is_frz_bool, vv_is_frz_int, vv_is_frz_str, vv_is_frz_tuple, vv_iss, vv_items_t, vv_items_f, vv_spl, vv_fmts, vv_fmti, vv_cats, vv_cast0, vv_cast1, vv_cast2, vv_cast3, vv_cast4, vv_cast5, vv_cast6, vv_cast7, vv_cast8, vv_cast9, vv_cast10, vv_cast11, vv_line0, vv_line1, vv_line2, vv_line3, vv_line4, vv_line5, vv_line6, vv_line7, vv_line8, vv_isl, vv_isl1, vv_lenl, vv_lenl1, vv_tupl, vv_tupl1, vv_items_l, vv_items_l1, vv_lst_f, vv_lst_l, vv_lst_l1, vv_app, vv_app1, vv_pop0, vv_pop01, vv_ins0, vv_ins01, vv_mull, vv_mull0, vv_mull1, vv_addl, vv_addl1, vv_slf, vv_slt, List.getElem?_cons_zero, List.getElem?_cons_succ, List.set_cons_zero, List.set_cons_succ, List.map_cons, List.map_nil, List.length_cons, List.length_nil, List.replicate_succ, List.replicate_zero, List.cons_append, List.nil_append, List.append_nil, Option.map_some, Option.map_none, Option.bind_some, Nat.reduceSub, Nat.reduceAdd, Nat.reduceMul, Nat.reduceLeDiff, Nat.zero_le, Int.reduceLT, Int.reduceLE, Int.reduceNeg, Int.reduceAdd, Int.reduceEq, Int.reduceMul, Int.reduceSub, eq_self, Bool.not_true, Bool.not_false, Bool.and_true, Bool.true_and, Bool.and_false, Bool.false_and, Bool.or_true, Bool.true_or, Bool.or_false, Bool.false_or, decide_true, decide_false, if_true, if_false, ite_true, ite_false, Bool.false_eq_true, and_true, true_and, and_false, false_and, not_true_eq_false, not_false_eq_true]
theorem is_run_ok {q : Int × Int × Int} (h : okR' q) : run pr (k + 3) "is_run" [encR q] s = .ok (.bl true) s := by
  have hc := okR_cnt h
  have eo := end_of_ok (k := k + 1) (s := s) h
  obtain ⟨h1, h2, h3, h4, h5, h6⟩ := h
  obtain ⟨c1, c2⟩ := hc
  refine run_pure pr_is_run rfl ?_
  unfold b_is_run
  have e0 : encR q = .tup [.int q.1, .int q.2.1, .int q.2.2] := rfl
  rw [e0] at eo ⊢
  by_cases h7 : 1 < q.2.2
  · simp only [at0, is_minute_int, is_integer_int, eo, h1, h2, h3, h4, h5, h7, c1, c2, ev_var, ev_var1, ev_c, ev_vout, ev_bin, ev_bin1, ev_bin2, ev_un, ev_un1, ev_lnil, ev_lcons, ev_lcons1, ev_lcons2, ev_ldef, ev_ldef1, ev_lstar, ev_lstar1, ev_lstar1b, ev_lstar2, ev_tup, ev_tup1, ev_lst, ev_lst1, ev_lchk, ev_lchk1, ev_call, ev_call1, ev_g, ev_b, ev_b1, ev_tmp, ev_tmp1, ev_comp, ev_comp1, ev_if, ev_if1t, ev_if1f, ev_bt, ev_bt1, ev_bt2, ev_bv, ev_bv1, ev_bnot, ev_bnot1, ev_band, ev_band1t, ev_band1f, ev_bor, ev_bor1t, ev_bor1f, ev_byes, ev_eand, ev_eand1, ev_eand2t, ev_eand2f, ev_eor, ev_eor1, ev_eor2t, ev_eor2f, ev_enot, ev_enot1, ev_enot2, ev_ch, ev_ch1, ev_ch2, ev_ch3t, ev_ch3f, ev_ch4, ev_m, ev_m1, ev_m2, ev_m3, ev_jo, ev_jo1, ev_jo2, ev_fs, ev_jfn, ev_jfc, ev_jf1, ev_dct, ev_kvn, ev_kvc, ev_kv1, ev_kv2, ev_kv3, ev_dct1, ev_pn, ev_ps, ev_ps1, ev_sl, ev_sl1, ev_sl2, ev_sl3, ev_snil, ev_seq, ev_seqn, ev_seqr, ev_seqb, ev_seqc, ev_seqx, ev_sex, ev_sex1, ev_ret, ev_ret1, ev_retn, ev_sif, ev_sif1t, ev_sif1f, ev_brk, ev_cnt, ev_asg, ev_asg1, ev_gnm, ev_gnil, ev_gcons, ev_gcons1, ev_gtp, ev_gst, ev_gst1, ev_gsub, ev_gsub1, ev_gsub2, ev_gsub3, ev_par, ev_par1, ev_par3, ev_par31, ev_aug, ev_aug1, ev_aug2, ev_aug3, ev_for, ev_for1, ev_lcomp, ev_lcomp1, ev_wipn, ev_wipc, ev_iseq, ev_iseq1, ev_seqt, ev_seqf, ev_seqs, ev_seql, ev_seql1, ev_rg1, ev_rg11, ev_rg2, ev_rg21, ev_en, ev_en1, ev_en2, ev_outr, ev_outn, ev_outx, ev_ixi, ev_ixk, ev_ixl, ev_ixll, ev_ixld, ev_ixkk, ev_ix1, ev_ixt, ev_ixf, vv_oAdd, vv_oAddI, vv_oSub, vv_oLt, vv_oLe, vv_oGt, vv_oGe, vv_oEq, vv_oNe, vv_eqs, vv_nes, vv_eqns, vv_isn, vv_notn, vv_in_non, vv_in_bl, vv_in_int, vv_in_str, vv_in_tup, vv_in_frz, vv_in_loc, vv_neg, vv_tb, vv_ti, vv_tn, vv_tt, vv_tf, vv_mul, vv_div, vv_mod, vv_pow7, vv_pow8, vv_pow9, vv_pow18, vv_pow12, vv_pow6, vv_pow5, vv_pow4, vv_pow10, vv_pow16, vv_abs, vv_min, vv_max, vv_inti, vv_intb, vv_stri, vv_strs, vv_lent, vv_lenf, vv_lens, vv_htup, vv_hlen, vv_is_non_bool, vv_is_non_int, vv_is_non_str, vv_is_non_tuple, vv_is_bl_bool, vv_is_bl_int, vv_is_bl_str, vv_is_bl_tuple, vv_is_int_bool, vv_is_int_int, vv_is_int_str, vv_is_int_tuple, vv_is_str_bool, vv_is_str_int, vv_is_str_str, vv_is_str_tuple, vv_is_tup_bool, vv_is_tup_int, vv_is_tup_str, vv_is_tup_tuple, vv_is_frz_bool, vv_is_frz_int, vv_is_frz_str, vv_is_frz_tuple, vv_iss, vv_items_t, vv_items_f, vv_spl, vv_fmts, vv_fmti, vv_cats, vv_cast0, vv_cast1, vv_cast2, vv_cast3, vv_cast4, vv_cast5, vv_cast6, vv_cast7, vv_cast8, vv_cast9, vv_cast10, vv_cast11, vv_line0, vv_line1, vv_line2, vv_line3, vv_line4, vv_line5, vv_line6, vv_line7, vv_line8, vv_isl, vv_isl1, vv_lenl, vv_lenl1, vv_tupl, vv_tupl1, vv_items_l, vv_items_l1, vv_lst_f, vv_lst_l, vv_lst_l1, vv_app, vv_app1, vv_pop0, vv_pop01, vv_ins0, vv_ins01, vv_mull, vv_mull0, vv_mull1, vv_addl, vv_addl1, vv_slf, vv_slt, List.getElem?_cons_zero, List.getElem?_cons_succ, List.set_cons_zero, List.set_cons_succ, List.map_cons, List.map_nil, List.length_cons, List.length_nil, List.replicate_succ, List.replicate_zero, List.cons_append, List.nil_append, List.append_nil, Option.map_some, Option.map_none, Option.bind_some, Nat.reduceSub, Nat.reduceAdd, Nat.reduceMul, Nat.reduceLeDiff, Nat.zero_le, Int.reduceLT, Int.reduceLE, Int.reduceNeg, Int.reduceAdd, Int.reduceEq, Int.reduceMul, Int.reduceSub, eq_self, Bool.not_true, Bool.not_false, Bool.and_true, Bool.true_and, Bool.and_false, Bool.false_and, Bool.or_true, Bool.true_or, Bool.or_false, Bool.false_or, decide_true, decide_false, if_true, if_false, ite_true, ite_false, Bool.false_eq_true, and_true, true_and, and_false, false_and, not_true_eq_false, not_false_eq_true]
  · have h8 : (q.2.1 = 1) = True := eq_true (h6 (by omega))
    simp only [at0, is_minute_int, is_integer_int, eo, h1, h2, h3, h4, h5, h7, h8, c1, c2, ev_var, ev_var1, ev_c, ev_vout, ev_bin, ev_bin1, ev_bin2, ev_un, ev_un1, ev_lnil, ev_lcons, ev_lcons1, ev_lcons2, ev_ldef, ev_ldef1, ev_lstar, ev_lstar1, ev_lstar1b, ev_lstar2, ev_tup, ev_tup1, ev_lst, ev_lst1, ev_lchk, ev_lchk1, ev_call, ev_call1, ev_g, ev_b, ev_b1, ev_tmp, ev_tmp1, ev_comp, ev_comp1, ev_if, ev_if1t, ev_if1f, ev_bt, ev_bt1, ev_bt2, ev_bv, ev_bv1, ev_bnot, ev_bnot1, ev_band, ev_band1t, ev_band1f, ev_bor, ev_bor1t, ev_bor1f, ev_byes, ev_eand, ev_eand1, ev_eand2t, ev_eand2f, ev_eor, ev_eor1, ev_eor2t, ev_eor2f, ev_enot, ev_enot1, ev_enot2, ev_ch, ev_ch1, ev_ch2, ev_ch3t, ev_ch3f, ev_ch4, ev_m, ev_m1, ev_m2, ev_m3, ev_jo, ev_jo1, ev_jo2, ev_fs, ev_jfn, ev_jfc, ev_jf1, ev_dct, ev_kvn, ev_kvc, ev_kv1, ev_kv2, ev_kv3, ev_dct1, ev_pn, ev_ps, ev_ps1, ev_sl, ev_sl1, ev_sl2, ev_sl3, ev_snil, ev_seq, ev_seqn, ev_seqr, ev_seqb, ev_seqc, ev_seqx, ev_sex, ev_sex1, ev_ret, ev_ret1, ev_retn, ev_sif, ev_sif1t, ev_sif1f, ev_brk, ev_cnt, ev_asg, ev_asg1, ev_gnm, ev_gnil, ev_gcons, ev_gcons1, ev_gtp, ev_gst, ev_gst1, ev_gsub, ev_gsub1, ev_gsub2, ev_gsub3, ev_par, ev_par1, ev_par3, ev_par31, ev_aug, ev_aug1, ev_aug2, ev_aug3, ev_for, ev_for1, ev_lcomp, ev_lcomp1, ev_wipn, ev_wipc, ev_iseq, ev_iseq1, ev_seqt, ev_seqf, ev_seqs, ev_seql, ev_seql1, ev_rg1, ev_rg11, ev_rg2, ev_rg21, ev_en, ev_en1, ev_en2, ev_outr, ev_outn, ev_outx, ev_ixi, ev_ixk, ev_ixl, ev_ixll, ev_ixld, ev_ixkk, ev_ix1, ev_ixt, ev_ixf, vv_oAdd, vv_oAddI, vv_oSub, vv_oLt, vv_oLe, vv_oGt, vv_oGe, vv_oEq, vv_oNe, vv_eqs, vv_nes, vv_eqns, vv_isn, vv_notn, vv_in_non, vv_in_bl, vv_in_int, vv_in_str, vv_in_tup, vv_in_frz, vv_in_loc, vv_neg, vv_tb, vv_ti, vv_tn, vv_tt, vv_tf, vv_mul, vv_div, vv_mod, vv_pow7, vv_pow8, vv_pow9, vv_pow18, vv_pow12, vv_pow6, vv_pow5, vv_pow4, vv_pow10, vv_pow16, vv_abs, vv_min, vv_max, vv_inti, vv_intb, vv_stri, vv_strs, vv_lent, vv_lenf, vv_lens, vv_htup, vv_hlen, vv_is_non_bool, vv_is_non_int, vv_is_non_str, vv_is_non_tuple, vv_is_bl_bool, vv_is_bl_int, vv_is_bl_str, vv_is_bl_tuple, vv_is_int_bool, vv_is_int_int, vv_is_int_str, vv_is_int_tuple, vv_is_str_bool, vv_is_str_int, vv_is_str_str, vv_is_str_tuple, vv_is_tup_bool, vv_is_tup_int, vv_is_tup_str, vv_is_tup_tuple, vv_is_frz_bool, vv_is_frz_int, vv_is_frz_str, vv_is_frz_tuple, vv_iss, vv_items_t, vv_items_f, vv_spl, vv_fmts, vv_fmti, vv_cats, vv_cast0, vv_cast1, vv_cast2, vv_cast3, vv_cast4, vv_cast5, vv_cast6, vv_cast7, vv_cast8, vv_cast9, vv_cast10, vv_cast11, vv_line0, vv_line1, vv_line2, vv_line3, vv_line4, vv_line5, vv_line6, vv_line7, vv_line8, vv_isl, vv_isl1, vv_lenl, vv_lenl1, vv_tupl, vv_tupl1, vv_items_l, vv_items_l1, vv_lst_f, vv_lst_l, vv_lst_l1, vv_app, vv_app1, vv_pop0, vv_pop01, vv_ins0, vv_ins01, vv_mull, vv_mull0, vv_mull1, vv_addl, vv_addl1, vv_slf, vv_slt, List.getElem?_cons_zero, List.getElem?_cons_succ, List.set_cons_zero, List.set_cons_succ, List.map_cons, List.map_nil, List.length_cons, List.length_nil, List.replicate_succ, List.replicate_zero, List.cons_append, List.nil_append, List.append_nil, Option.map_some, Option.map_none, Option.bind_some, Nat.reduceSub, Nat.reduceAdd, Nat.reduceMul, Nat.reduceLeDiff, Nat.zero_le, Int.reduceLT, Int.reduceLE, Int.reduceNeg, Int.reduceAdd, Int.reduceEq, Int.reduceMul, Int.reduceSub, eq_self, Bool.not_true, Bool.not_false, Bool.and_true, Bool.true_and, Bool.and_false, Bool.false_and, Bool.or_true, Bool.true_or, Bool.or_false, Bool.false_or, decide_true, decide_false, if_true, if_false, ite_true, ite_false, Bool.false_eq_true, and_true, true_and, and_false, false_and, not_true_eq_false, not_false_eq_true]
/-! ### texts -/
def wL (q : Str × Int) : Str := q.1 ++ ":" ++ num q.2
def wP (q : Int × Int) : Str := num q.1 ++ "-" ++ num q.2
def wR (q : Int × Int × Int) : Str := if 1 < q.2.2 then num q.1 ++ "+" ++ (num q.2.1 ++ "x" ++ num q.2.2) else num q.1
def textOf {α : Type} (w : α → Str) (xs : List α) : Str := if xs.isEmpty = true then "none" else Txt.join " " (xs.map w)
theorem tl1 : TL.tl ":" = [58] ∧ TL.tl "-" = [45] ∧ TL.tl "+" = [43] ∧ TL.tl "x" = [120] ∧ TL.tl " " = [32] ∧ TL.tl "hold" = [104, 111, 108, 100] ∧ TL.tl "pulse" = [112, 117, 108, 115, 101] ∧ TL.tl "none" = [110, 111, 110, 101] := by decide
/-- what is asked of a word -/
structure Wd (w : Str) : Prop where
  sp : 32 ∉ TL.tl w
  ok : ∀ c ∈ TL.tl w, c < 1114112
  ln : w.length ≤ 40
  nn : ∃ c ∈ TL.tl w, c < 60
theorem kind_free {z : Str} (h : z = "hold" ∨ z = "pulse") : ∀ c ∈ TL.tl z, 100 ≤ c ∧ c ≤ 117 := by
  obtain ⟨_, _, _, _, _, e1, e2, _⟩ := tl1
  rcases h with rfl | rfl
  · rw [e1]; intro c hc; simp at hc; omega
  · rw [e2]; intro c hc; simp at hc; omega
theorem kind_len {z : Str} (h : z = "hold" ∨ z = "pulse") : z.length ≤ 5 := by
  rcases h with rfl | rfl <;> decide
theorem wd_L {q : Str × Int} (h : okL q) : Wd (wL q) := by
  obtain ⟨h1, h2, h3⟩ := h
  have hk := kind_free h1
  have hn := num_digits (i := q.2) (by omega)
  have e : TL.tl (wL q) = TL.tl q.1 ++ [58] ++ TL.tl (num q.2) := by unfold wL; rw [tl_app, tl_app, tl1.1]
  refine ⟨?_, ?_, ?_, ⟨58, by rw [e]; simp, by decide⟩⟩
  · rw [e]; simp only [List.mem_append, List.mem_singleton]
    rintro ((m | m) | m)
    · have := hk _ m; omega
    · omega
    · have := hn _ m; omega
  · rw [e]; simp only [List.mem_append, List.mem_singleton]
    rintro c ((m | m) | m)
    · have := hk _ m; omega
    · omega
    · have := hn _ m; omega
  · have := kind_len h1
    have := (num_len (i := q.2) (by omega) (by omega)).2
    have e1 : (":" : Str).length = 1 := by decide
    unfold wL
    rw [len_app, len_app]; omega
theorem wd_P {q : Int × Int} (h : okP q) : Wd (wP q) := by
  obtain ⟨h1, h2, h3⟩ := h
  have ha := num_digits (i := q.1) (by omega)
  have hn := num_digits (i := q.2) (by omega)
  have e : TL.tl (wP q) = TL.tl (num q.1) ++ [45] ++ TL.tl (num q.2) := by unfold wP; rw [tl_app, tl_app, tl1.2.1]
  refine ⟨?_, ?_, ?_, ⟨45, by rw [e]; simp, by decide⟩⟩
  · rw [e]; simp only [List.mem_append, List.mem_singleton]
    rintro ((m | m) | m)
    · have := ha _ m; omega
    · omega
    · have := hn _ m; omega
  · rw [e]; simp only [List.mem_append, List.mem_singleton]
    rintro c ((m | m) | m)
    · have := ha _ m; omega
    · omega
    · have := hn _ m; omega
  · have := (num_len (i := q.1) (by omega) (by omega)).2
    have := (num_len (i := q.2) (by omega) (by omega)).2
    have e1 : ("-" : Str).length = 1 := by decide
    unfold wP
    rw [len_app, len_app]; omega
theorem tl_R {q : Int × Int × Int} (h : 1 < q.2.2) : TL.tl (wR q) = TL.tl (num q.1) ++ [43] ++ (TL.tl (num q.2.1) ++ [120] ++ TL.tl (num q.2.2)) := by
  unfold wR
  rw [if_pos h, tl_app, tl_app, tl_app, tl_app, tl1.2.2.1, tl1.2.2.2.1]
theorem wd_R {q : Int × Int × Int} (h : okR' q) : Wd (wR q) := by
  have hcc := okR_cnt h
  obtain ⟨h1, h2, h3, h4, h5, h6⟩ := h
  have ha := num_digits (i := q.1) (by omega)
  have hn := num_digits (i := q.2.1) (by omega)
  have hm := num_digits (i := q.2.2) (by omega)
  have l1 := (num_len (i := q.1) (by omega) (by omega)).2
  have l2 := (num_len (i := q.2.1) (by omega) (by omega)).2
  have l3 := (num_len (i := q.2.2) (by omega) (by omega)).2
  obtain ⟨c0, r0, e0⟩ : ∃ c r, TL.tl (num q.1) = c :: r := by
    cases e : TL.tl (num q.1) with
    | nil => exact absurd e (num_ne h1)
    | cons c r => exact ⟨c, r, rfl⟩
  have hc0 := ha c0 (by rw [e0]; exact List.mem_cons_self)
  by_cases h7 : 1 < q.2.2
  · have e := tl_R h7
    refine ⟨?_, ?_, ?_, ⟨c0, by rw [e, e0]; simp, by omega⟩⟩
    · rw [e]; simp only [List.mem_append, List.mem_singleton]
      rintro ((m | m) | ((m | m) | m))
      · have := ha _ m; omega
      · omega
      · have := hn _ m; omega
      · omega
      · have := hm _ m; omega
    · rw [e]; simp only [List.mem_append, List.mem_singleton]
      rintro c ((m | m) | ((m | m) | m))
      · have := ha _ m; omega
      · omega
      · have := hn _ m; omega
      · omega
      · have := hm _ m; omega
    · have e1 : ("+" : Str).length = 1 := by decide
      have e2 : ("x" : Str).length = 1 := by decide
      unfold wR
      rw [if_pos h7, len_app, len_app, len_app, len_app]; omega
  · have e : wR q = num q.1 := if_neg h7
    rw [e]
    exact ⟨fun m => by have := ha _ m; omega, fun c m => by have := ha _ m; omega, by omega, ⟨c0, by rw [e0]; exact List.mem_cons_self, by omega⟩⟩
/-- joined words -/
structure Tx (t : Str) : Prop where
  ok : ∀ c ∈ TL.tl t, c < 1114112
  ln : t.length ≤ 41 * 400
theorem joinL_mem {c : Nat} {S : List Nat} : ∀ {ps : List (List Nat)}, c ∈ TL.joinL S ps → c ∈ S ∨ ∃ p ∈ ps, c ∈ p
  | [], h => by simp [TL.joinL] at h
  | [p], h => .inr ⟨p, by simp, h⟩
  | p :: q :: r, h => by
    simp only [TL.joinL, List.mem_append] at h
    rcases h with h | h | h
    · exact .inr ⟨p, by simp, h⟩
    · exact .inl h
    · rcases joinL_mem h with h | ⟨z, hz, h⟩
      · exact .inl h
      · exact .inr ⟨z, List.mem_cons_of_mem _ hz, h⟩
theorem mem_joinL {c : Nat} {S : List Nat} : ∀ {ps : List (List Nat)} {p : List Nat}, p ∈ ps → c ∈ p → c ∈ TL.joinL S ps
  | [p], _, h, hc => by simp at h; subst h; exact hc
  | p :: q :: r, z, h, hc => by
    simp only [TL.joinL, List.mem_append]
    rcases List.mem_cons.mp h with rfl | h
    · exact .inl hc
    · exact .inr (.inr (mem_joinL h hc))
theorem tx_of {α : Type} {w : α → Str} {xs : List α} (h : ∀ x ∈ xs, Wd (w x)) (hl : xs.length ≤ 400) : Tx (textOf w xs) := by
  unfold textOf
  split
  · exact ⟨by rw [tl1.2.2.2.2.2.2.2]; intro c hc; simp at hc; omega, by decide⟩
  · refine ⟨fun c hc => ?_, ?_⟩
    · rw [TL.join_eq, TL.tl_join] at hc
      rcases joinL_mem hc with hc | ⟨p, hp, hc⟩
      · rw [tl1.2.2.2.2.1] at hc; simp at hc; omega
      · simp only [List.map_map, List.mem_map, Function.comp] at hp
        obtain ⟨x, hx, rfl⟩ := hp
        exact (h x hx).ok c hc
    · have j := join_len " " (xs.map w)
      have e1 : (" " : Str).length = 1 := by decide
      have s1 : ((xs.map w).map (·.length)).sum ≤ (xs.map w).length * 40 := sum_le fun a ha => by
        obtain ⟨x, hx, rfl⟩ := List.mem_map.mp ha
        exact (h x hx).ln
      rw [List.length_map] at s1 j
      rw [e1] at j
      omega
theorem text_ne {α : Type} {w : α → Str} {xs : List α} (h : ∀ x ∈ xs, Wd (w x)) (hne : xs ≠ []) : Txt.join " " (xs.map w) ≠ "none" := by
  intro e
  obtain ⟨x, hx⟩ := List.exists_mem_of_ne_nil xs hne
  obtain ⟨c, hc, hlt⟩ := (h x hx).nn
  have m : c ∈ TL.tl (Txt.join " " (xs.map w)) := by
    rw [TL.join_eq, TL.tl_join]
    exact mem_joinL (List.mem_map_of_mem (List.mem_map_of_mem hx)) hc
  rw [e, tl1.2.2.2.2.2.2.2] at m
  simp at m; omega
end
end K71

set_option maxRecDepth 100000
set_option maxHeartbeats 4000000
namespace K71
open PySem PySem.Spec PyProof.Rows L2 Fx
section
variable {d n k : Nat} {s : Sto}
theorem split_at {z w : Str} {ps : List Str} (e1 : w.length = 1) (hl : z.length ≤ 20000) (e : Txt.split z w = ps) : mSplit (.str z) [.str w] s = some (.loc s.len, s.add (.lst (strTs ps))) := by
  rw [vv_spl ⟨by rw [e1]; rfl, by rw [sizeLine_eq]; omega⟩, e]
theorem one_lens : (":" : Str).length = 1 ∧ ("-" : Str).length = 1 ∧ ("+" : Str).length = 1 ∧ ("x" : Str).length = 1 ∧ (" " : Str).length = 1 := by decide
theorem read_lamp_ok {q : Str × Int} (h : okL q) : run pr (k + 3) "read_lamp" [.str (wL q)] s = .ok (encL q) s := by
  have hw := wd_L h
  have il := fun s => is_lamp_ok (k := k) (s := s) h
  obtain ⟨h1, h2, h3⟩ := h
  have sp := split_at (s := s) (z := wL q) one_lens.1 (by have := hw.ln; omega) (split2 tl1.1 (by decide) (fun m => by have := kind_free h1 _ m; omega) (num_free (by omega) (by decide)))
  have q1 : s.add (.lst (strTs [q.1, num q.2])) = s.add (.lst [.str q.1, .str (num q.2)]) := rfl
  rw [q1] at sp
  let s1 := s.add (.lst [.str q.1, .str (num q.2)])
  have g1 : s1.get s.len = some (.lst [.str q.1, .str (num q.2)]) := get_add
  let s2 := s1.add (.lst [.str (num q.2)])
  have g2 : s2.get s1.len = some (.lst [.str (num q.2)]) := get_add
  have q2 : s.add (.lst [.str q.1, .str (num q.2)]) = s1 := rfl
  have q3 : s1.add (.lst [.str (num q.2)]) = s2 := rfl
  refine run_gro pr_read_lamp rfl ⟨s2, ?_, Gro.add.trans Gro.add⟩ (Nat.zero_le _)
  have e0 : encL q = .tup [.str q.1, .int q.2] := rfl
  rw [e0] at il ⊢
  unfold b_read_lamp
  simp only [sp, q2, g1, q3, g2, at0, read_int (show 0 ≤ q.2 by omega) (show q.2 < 10000000000 by omega), il, ev_var, ev_var1, ev_c, ev_vout, ev_bin, ev_bin1, ev_bin2, ev_un, ev_un1, ev_lnil, ev_lcons, ev_lcons1, ev_lcons2, ev_ldef, ev_ldef1, ev_lstar, ev_lstar1, ev_lstar1b, ev_lstar2, ev_tup, ev_tup1, ev_lst, ev_lst1, ev_lchk, ev_lchk1, ev_call, ev_call1, ev_g, ev_b, ev_b1, ev_tmp, ev_tmp1, ev_comp, ev_comp1, ev_if, ev_if1t, ev_if1f, ev_bt, ev_bt1, ev_bt2, ev_bv, ev_bv1, ev_bnot, ev_bnot1, ev_band, ev_band1t, ev_band1f, ev_bor, ev_bor1t, ev_bor1f, ev_byes, ev_eand, ev_eand1, ev_eand2t, ev_eand2f, ev_eor, ev_eor1, ev_eor2t, ev_eor2f, ev_enot, ev_enot1, ev_enot2, ev_ch, ev_ch1, ev_ch2, ev_ch3t, ev_ch3f, ev_ch4, ev_m, ev_m1, ev_m2, ev_m3, ev_jo, ev_jo1, ev_jo2, ev_fs, ev_jfn, ev_jfc, ev_jf1, ev_dct, ev_kvn, ev_kvc, ev_kv1, ev_kv2, ev_kv3, ev_dct1, ev_pn, ev_ps, ev_ps1, ev_sl, ev_sl1, ev_sl2, ev_sl3, ev_snil, ev_seq, ev_seqn, ev_seqr, ev_seqb, ev_seqc, ev_seqx, ev_sex, ev_sex1, ev_ret, ev_ret1, ev_retn, ev_sif, ev_sif1t, ev_sif1f, ev_brk, ev_cnt, ev_asg, ev_asg1, ev_gnm, ev_gnil, ev_gcons, ev_gcons1, ev_gtp, ev_gst, ev_gst1, ev_gsub, ev_gsub1, ev_gsub2, ev_gsub3, ev_par, ev_par1, ev_par3, ev_par31, ev_aug, ev_aug1, ev_aug2, ev_aug3, ev_for, ev_for1, ev_lcomp, ev_lcomp1, ev_wipn, ev_wipc, ev_iseq, ev_iseq1, ev_seqt, ev_seqf, ev_seqs, ev_seql, ev_seql1, ev_rg1, ev_rg11, ev_rg2, ev_rg21, ev_en, ev_en1, ev_en2, ev_outr, ev_outn, ev_outx, ev_ixi, ev_ixk, ev_ixl, ev_ixll, ev_ixld, ev_ixkk, ev_ix1, ev_ixt, ev_ixf, vv_oAdd, vv_oAddI, vv_oSub, vv_oLt, vv_oLe, vv_oGt, vv_oGe, vv_oEq, vv_oNe, vv_eqs, vv_nes, vv_eqns, vv_isn, vv_notn, vv_in_non, vv_in_bl, vv_in_int, vv_in_str, vv_in_tup, vv_in_frz, vv_in_loc, vv_neg, vv_tb, vv_ti, vv_tn, vv_tt, vv_tf, vv_mul, vv_div, vv_mod, vv_pow7, vv_pow8, vv_pow9, vv_pow18, vv_pow12, vv_pow6, vv_pow5, vv_pow4, vv_pow10, vv_pow16, vv_abs, vv_min, vv_max, vv_inti, vv_intb, vv_stri, vv_strs, vv_lent, vv_lenf, vv_lens, vv_htup, vv_hlen, vv_is_non_bool, vv_is_non_int, vv_is_non_str, vv_is_non_tuple, vv_is_bl_bool, vv_is_bl_int, vv_is_bl_str, vv_is_bl_tuple, vv_is_int_bool, vv_is_int_int, vv_is_int_str, vv_is_int_tuple, vv_is_str_bool, vv_is_str_int, vv_is_str_str, vv_is_str_tuple, vv_is_tup_bool, vv_is_tup_int, vv_is_tup_str, vv_is_tup_tuple, vv_is_frz_bool, vv_is_frz_int, vv_is_frz_str, vv_is_frz_tuple, vv_iss, vv_items_t, vv_items_f, vv_spl, vv_fmts, vv_fmti, vv_cats, vv_cast0, vv_cast1, vv_cast2, vv_cast3, vv_cast4, vv_cast5, vv_cast6, vv_cast7, vv_cast8, vv_cast9, vv_cast10, vv_cast11, vv_line0, vv_line1, vv_line2, vv_line3, vv_line4, vv_line5, vv_line6, vv_line7, vv_line8, vv_isl, vv_isl1, vv_lenl, vv_lenl1, vv_tupl, vv_tupl1, vv_items_l, vv_items_l1, vv_lst_f, vv_lst_l, vv_lst_l1, vv_app, vv_app1, vv_pop0, vv_pop01, vv_ins0, vv_ins01, vv_mull, vv_mull0, vv_mull1, vv_addl, vv_addl1, vv_slf, vv_slt, List.getElem?_cons_zero, List.getElem?_cons_succ, List.set_cons_zero, List.set_cons_succ, List.map_cons, List.map_nil, List.length_cons, List.length_nil, List.replicate_succ, List.replicate_zero, List.cons_append, List.nil_append, List.append_nil, Option.map_some, Option.map_none, Option.bind_some, Nat.reduceSub, Nat.reduceAdd, Nat.reduceMul, Nat.reduceLeDiff, Nat.zero_le, Int.reduceLT, Int.reduceLE, Int.reduceNeg, Int.reduceAdd, Int.reduceEq, Int.reduceMul, Int.reduceSub, eq_self, Bool.not_true, Bool.not_false, Bool.and_true, Bool.true_and, Bool.and_false, Bool.false_and, Bool.or_true, Bool.true_or, Bool.or_false, Bool.false_or, decide_true, decide_false, if_true, if_false, ite_true, ite_false, Bool.false_eq_true, and_true, true_and, and_false, false_and, not_true_eq_false, not_false_eq_true]
theorem read_run_ok {q : Int × Int × Int} (h : okR' q) : run pr (k + 3) "read_run" [.str (wR q)] s = .ok (encR q) s := by
  have hw := wd_R h
  have hcc := okR_cnt h
  obtain ⟨h1, h2, h3, h4, h5, h6⟩ := h
  have e0 : encR q = .tup [.int q.1, .int q.2.1, .int q.2.2] := rfl
  rw [e0]
  have r1 := fun s => read_int (k := k + 1) (s := s) (i := q.1) h1 (by omega)
  by_cases h7 : 1 < q.2.2
  · have ew : wR q = num q.1 ++ "+" ++ (num q.2.1 ++ "x" ++ num q.2.2) := if_pos h7
    have f2 : 43 ∉ TL.tl (num q.2.1 ++ "x" ++ num q.2.2) := by
      rw [tl_app, tl_app, tl1.2.2.2.1]
      simp only [List.mem_append, List.mem_singleton]
      rintro ((m | m) | m)
      · exact num_free (by omega) (by decide) m
      · omega
      · exact num_free (by omega) (by decide) m
    have sp := split_at (s := s) (z := wR q) (ps := [num q.1, num q.2.1 ++ "x" ++ num q.2.2]) one_lens.2.2.1 (by have := hw.ln; omega) (by rw [ew]; exact split2 tl1.2.2.1 (by decide) (num_free h1 (by decide)) f2)
    have q1 : s.add (.lst (strTs [num q.1, num q.2.1 ++ "x" ++ num q.2.2])) = s.add (.lst [.str (num q.1), .str (num q.2.1 ++ "x" ++ num q.2.2)]) := rfl
    rw [q1] at sp
    let s1 := s.add (.lst [.str (num q.1), .str (num q.2.1 ++ "x" ++ num q.2.2)])
    have g1 : s1.get s.len = some (.lst [.str (num q.1), .str (num q.2.1 ++ "x" ++ num q.2.2)]) := get_add
    let s2 := s1.add (.lst [.str (num q.2.1 ++ "x" ++ num q.2.2)])
    have g2 : s2.get s1.len = some (.lst [.str (num q.2.1 ++ "x" ++ num q.2.2)]) := get_add
    let s3 := s2.add (.lst [])
    have g3 : s3.get s1.len = some (.lst [.str (num q.2.1 ++ "x" ++ num q.2.2)]) := get_add_old g2
    have q2 : s.add (.lst [.str (num q.1), .str (num q.2.1 ++ "x" ++ num q.2.2)]) = s1 := rfl
    have q3 : s1.add (.lst [.str (num q.2.1 ++ "x" ++ num q.2.2)]) = s2 := rfl
    have q4 : s2.add (.lst []) = s3 := rfl
    have so : PyData.strOk (num q.2.1 ++ "x" ++ num q.2.2) = true := strOk_of fun c hc => by
      rw [tl_app, tl_app, tl1.2.2.2.1] at hc
      simp only [List.mem_append, List.mem_singleton] at hc
      rcases hc with (m | m) | m
      · have := num_digits (i := q.2.1) (by omega) c m; omega
      · omega
      · have := num_digits (i := q.2.2) (by omega) c m; omega
    have en : oEq (.loc s1.len) (.loc s2.len) s3 = some (.bl false, s3) := by
      show (Fx.eqT s3 _ _).map _ = _
      have : Fx.eqT s3 (.loc s1.len) (.loc s2.len) = some false := by
        have t1 : toD DEEP s3 (.loc s1.len) = some (.list [.str (num q.2.1 ++ "x" ++ num q.2.2)]) := by
          show toD (28 + 2) s3 _ = _
          rw [toD]
          simp only [g3]
          rw [mapO, toD]
          simp only [so, if_true, mapO, Option.map_some]
        have t2 : toD DEEP s3 (.loc s2.len) = some (.list []) := by
          show toD (28 + 2) s3 _ = _
          rw [toD]
          have : s3.get s2.len = some (.lst []) := get_add
          simp only [this, mapO, Option.map_some]
        unfold Fx.eqT
        simp only [eqS, t1, t2]
        rfl
      rw [this]; rfl
    have rp := fun s => read_two (k := k) (s := s) (a := q.2.1) (b := q.2.2) tl1.2.2.2.1 (by decide) (by decide) (by omega) (by omega) (by omega) (by omega)
    have h8 : ¬ q.2.2 < 2 := by omega
    refine run_gro pr_read_run rfl ⟨s3, ?_, (Gro.add.trans Gro.add).trans Gro.add⟩ (Nat.zero_le _)
    unfold b_read_run
    simp only [sp, q2, g1, q3, g2, q4, g3, en, at0, at1, r1, rp, h8, ev_var, ev_var1, ev_c, ev_vout, ev_bin, ev_bin1, ev_bin2, ev_un, ev_un1, ev_lnil, ev_lcons, ev_lcons1, ev_lcons2, ev_ldef, ev_ldef1, ev_lstar, ev_lstar1, ev_lstar1b, ev_lstar2, ev_tup, ev_tup1, ev_lst, ev_lst1, ev_lchk, ev_lchk1, ev_call, ev_call1, ev_g, ev_b, ev_b1, ev_tmp, ev_tmp1, ev_comp, ev_comp1, ev_if, ev_if1t, ev_if1f, ev_bt, ev_bt1, ev_bt2, ev_bv, ev_bv1, ev_bnot, ev_bnot1, ev_band, ev_band1t, ev_band1f, ev_bor, ev_bor1t, ev_bor1f, ev_byes, ev_eand, ev_eand1, ev_eand2t, ev_eand2f, ev_eor, ev_eor1, ev_eor2t, ev_eor2f, ev_enot, ev_enot1, ev_enot2, ev_ch, ev_ch1, ev_ch2, ev_ch3t, ev_ch3f, ev_ch4, ev_m, ev_m1, ev_m2, ev_m3, ev_jo, ev_jo1, ev_jo2, ev_fs, ev_jfn, ev_jfc, ev_jf1, ev_dct, ev_kvn, ev_kvc, ev_kv1, ev_kv2, ev_kv3, ev_dct1, ev_pn, ev_ps, ev_ps1, ev_sl, ev_sl1, ev_sl2, ev_sl3, ev_snil, ev_seq, ev_seqn, ev_seqr, ev_seqb, ev_seqc, ev_seqx, ev_sex, ev_sex1, ev_ret, ev_ret1, ev_retn, ev_sif, ev_sif1t, ev_sif1f, ev_brk, ev_cnt, ev_asg, ev_asg1, ev_gnm, ev_gnil, ev_gcons, ev_gcons1, ev_gtp, ev_gst, ev_gst1, ev_gsub, ev_gsub1, ev_gsub2, ev_gsub3, ev_par, ev_par1, ev_par3, ev_par31, ev_aug, ev_aug1, ev_aug2, ev_aug3, ev_for, ev_for1, ev_lcomp, ev_lcomp1, ev_wipn, ev_wipc, ev_iseq, ev_iseq1, ev_seqt, ev_seqf, ev_seqs, ev_seql, ev_seql1, ev_rg1, ev_rg11, ev_rg2, ev_rg21, ev_en, ev_en1, ev_en2, ev_outr, ev_outn, ev_outx, ev_ixi, ev_ixk, ev_ixl, ev_ixll, ev_ixld, ev_ixkk, ev_ix1, ev_ixt, ev_ixf, vv_oAdd, vv_oAddI, vv_oSub, vv_oLt, vv_oLe, vv_oGt, vv_oGe, vv_oEq, vv_oNe, vv_eqs, vv_nes, vv_eqns, vv_isn, vv_notn, vv_in_non, vv_in_bl, vv_in_int, vv_in_str, vv_in_tup, vv_in_frz, vv_in_loc, vv_neg, vv_tb, vv_ti, vv_tn, vv_tt, vv_tf, vv_mul, vv_div, vv_mod, vv_pow7, vv_pow8, vv_pow9, vv_pow18, vv_pow12, vv_pow6, vv_pow5, vv_pow4, vv_pow10, vv_pow16, vv_abs, vv_min, vv_max, vv_inti, vv_intb, vv_stri, vv_strs, vv_lent, vv_lenf, vv_lens, vv_htup, vv_hlen, vv_is_non_bool, vv_is_non_int, vv_is_non_str, vv_is_non_tuple, vv_is_bl_bool, vv_is_bl_int, vv_is_bl_str, vv_is_bl_tuple, vv_is_int_bool, vv_is_int_int, vv_is_int_str, vv_is_int_tuple, vv_is_str_bool, vv_is_str_int, vv_is_str_str, vv_is_str_tuple, vv_is_tup_bool, vv_is_tup_int, vv_is_tup_str, vv_is_tup_tuple, vv_is_frz_bool, vv_is_frz_int, vv_is_frz_str, vv_is_frz_tuple, vv_iss, vv_items_t, vv_items_f, vv_spl, vv_fmts, vv_fmti, vv_cats, vv_cast0, vv_cast1, vv_cast2, vv_cast3, vv_cast4, vv_cast5, vv_cast6, vv_cast7, vv_cast8, vv_cast9, vv_cast10, vv_cast11, vv_line0, vv_line1, vv_line2, vv_line3, vv_line4, vv_line5, vv_line6, vv_line7, vv_line8, vv_isl, vv_isl1, vv_lenl, vv_lenl1, vv_tupl, vv_tupl1, vv_items_l, vv_items_l1, vv_lst_f, vv_lst_l, vv_lst_l1, vv_app, vv_app1, vv_pop0, vv_pop01, vv_ins0, vv_ins01, vv_mull, vv_mull0, vv_mull1, vv_addl, vv_addl1, vv_slf, vv_slt, List.getElem?_cons_zero, List.getElem?_cons_succ, List.set_cons_zero, List.set_cons_succ, List.map_cons, List.map_nil, List.length_cons, List.length_nil, List.replicate_succ, List.replicate_zero, List.cons_append, List.nil_append, List.append_nil, Option.map_some, Option.map_none, Option.bind_some, Nat.reduceSub, Nat.reduceAdd, Nat.reduceMul, Nat.reduceLeDiff, Nat.zero_le, Int.reduceLT, Int.reduceLE, Int.reduceNeg, Int.reduceAdd, Int.reduceEq, Int.reduceMul, Int.reduceSub, eq_self, Bool.not_true, Bool.not_false, Bool.and_true, Bool.true_and, Bool.and_false, Bool.false_and, Bool.or_true, Bool.true_or, Bool.or_false, Bool.false_or, decide_true, decide_false, if_true, if_false, ite_true, ite_false, Bool.false_eq_true, and_true, true_and, and_false, false_and, not_true_eq_false, not_false_eq_true]
  · have ew : wR q = num q.1 := if_neg h7
    rw [ew] at hw ⊢
    have sp := split_at (s := s) (z := num q.1) one_lens.2.2.1 (by have := hw.ln; omega) (split1 tl1.2.2.1 (by decide) (num_free h1 (by decide)))
    let s1 := s.add (.lst [.str (num q.1)])
    have q1 : s.add (.lst (strTs [num q.1])) = s1 := rfl
    have g1 : s1.get s.len = some (.lst [.str (num q.1)]) := get_add
    let s2 := s1.add (.lst [])
    have g2 : s2.get s1.len = some (.lst (([] : List Int).map T.int)) := get_add
    have q2 : s1.add (.lst []) = s2 := rfl
    let s3 := s2.add (.lst [])
    have q3 : s2.add (.lst []) = s3 := rfl
    have en : oEq (.loc s1.len) (.loc s2.len) s3 = some (.bl true, s3) := eq_nil (l := []) (get_add_old g2) get_add
    have h8 : q.2.2 = 1 := by omega
    have h9 := h6 h8
    refine run_gro pr_read_run rfl ⟨s3, ?_, (Gro.add.trans Gro.add).trans Gro.add⟩ (Nat.zero_le _)
    unfold b_read_run
    simp only [sp, q1, g1, q2, q3, en, r1, h8, h9, ev_var, ev_var1, ev_c, ev_vout, ev_bin, ev_bin1, ev_bin2, ev_un, ev_un1, ev_lnil, ev_lcons, ev_lcons1, ev_lcons2, ev_ldef, ev_ldef1, ev_lstar, ev_lstar1, ev_lstar1b, ev_lstar2, ev_tup, ev_tup1, ev_lst, ev_lst1, ev_lchk, ev_lchk1, ev_call, ev_call1, ev_g, ev_b, ev_b1, ev_tmp, ev_tmp1, ev_comp, ev_comp1, ev_if, ev_if1t, ev_if1f, ev_bt, ev_bt1, ev_bt2, ev_bv, ev_bv1, ev_bnot, ev_bnot1, ev_band, ev_band1t, ev_band1f, ev_bor, ev_bor1t, ev_bor1f, ev_byes, ev_eand, ev_eand1, ev_eand2t, ev_eand2f, ev_eor, ev_eor1, ev_eor2t, ev_eor2f, ev_enot, ev_enot1, ev_enot2, ev_ch, ev_ch1, ev_ch2, ev_ch3t, ev_ch3f, ev_ch4, ev_m, ev_m1, ev_m2, ev_m3, ev_jo, ev_jo1, ev_jo2, ev_fs, ev_jfn, ev_jfc, ev_jf1, ev_dct, ev_kvn, ev_kvc, ev_kv1, ev_kv2, ev_kv3, ev_dct1, ev_pn, ev_ps, ev_ps1, ev_sl, ev_sl1, ev_sl2, ev_sl3, ev_snil, ev_seq, ev_seqn, ev_seqr, ev_seqb, ev_seqc, ev_seqx, ev_sex, ev_sex1, ev_ret, ev_ret1, ev_retn, ev_sif, ev_sif1t, ev_sif1f, ev_brk, ev_cnt, ev_asg, ev_asg1, ev_gnm, ev_gnil, ev_gcons, ev_gcons1, ev_gtp, ev_gst, ev_gst1, ev_gsub, ev_gsub1, ev_gsub2, ev_gsub3, ev_par, ev_par1, ev_par3, ev_par31, ev_aug, ev_aug1, ev_aug2, ev_aug3, ev_for, ev_for1, ev_lcomp, ev_lcomp1, ev_wipn, ev_wipc, ev_iseq, ev_iseq1, ev_seqt, ev_seqf, ev_seqs, ev_seql, ev_seql1, ev_rg1, ev_rg11, ev_rg2, ev_rg21, ev_en, ev_en1, ev_en2, ev_outr, ev_outn, ev_outx, ev_ixi, ev_ixk, ev_ixl, ev_ixll, ev_ixld, ev_ixkk, ev_ix1, ev_ixt, ev_ixf, vv_oAdd, vv_oAddI, vv_oSub, vv_oLt, vv_oLe, vv_oGt, vv_oGe, vv_oEq, vv_oNe, vv_eqs, vv_nes, vv_eqns, vv_isn, vv_notn, vv_in_non, vv_in_bl, vv_in_int, vv_in_str, vv_in_tup, vv_in_frz, vv_in_loc, vv_neg, vv_tb, vv_ti, vv_tn, vv_tt, vv_tf, vv_mul, vv_div, vv_mod, vv_pow7, vv_pow8, vv_pow9, vv_pow18, vv_pow12, vv_pow6, vv_pow5, vv_pow4, vv_pow10, vv_pow16, vv_abs, vv_min, vv_max, vv_inti, vv_intb, vv_stri, vv_strs, vv_lent, vv_lenf, vv_lens, vv_htup, vv_hlen, vv_is_non_bool, vv_is_non_int, vv_is_non_str, vv_is_non_tuple, vv_is_bl_bool, vv_is_bl_int, vv_is_bl_str, vv_is_bl_tuple, vv_is_int_bool, vv_is_int_int, vv_is_int_str, vv_is_int_tuple, vv_is_str_bool, vv_is_str_int, vv_is_str_str, vv_is_str_tuple, vv_is_tup_bool, vv_is_tup_int, vv_is_tup_str, vv_is_tup_tuple, vv_is_frz_bool, vv_is_frz_int, vv_is_frz_str, vv_is_frz_tuple, vv_iss, vv_items_t, vv_items_f, vv_spl, vv_fmts, vv_fmti, vv_cats, vv_cast0, vv_cast1, vv_cast2, vv_cast3, vv_cast4, vv_cast5, vv_cast6, vv_cast7, vv_cast8, vv_cast9, vv_cast10, vv_cast11, vv_line0, vv_line1, vv_line2, vv_line3, vv_line4, vv_line5, vv_line6, vv_line7, vv_line8, vv_isl, vv_isl1, vv_lenl, vv_lenl1, vv_tupl, vv_tupl1, vv_items_l, vv_items_l1, vv_lst_f, vv_lst_l, vv_lst_l1, vv_app, vv_app1, vv_pop0, vv_pop01, vv_ins0, vv_ins01, vv_mull, vv_mull0, vv_mull1, vv_addl, vv_addl1, vv_slf, vv_slt, List.getElem?_cons_zero, List.getElem?_cons_succ, List.set_cons_zero, List.set_cons_succ, List.map_cons, List.map_nil, List.length_cons, List.length_nil, List.replicate_succ, List.replicate_zero, List.cons_append, List.nil_append, List.append_nil, Option.map_some, Option.map_none, Option.bind_some, Nat.reduceSub, Nat.reduceAdd, Nat.reduceMul, Nat.reduceLeDiff, Nat.zero_le, Int.reduceLT, Int.reduceLE, Int.reduceNeg, Int.reduceAdd, Int.reduceEq, Int.reduceMul, Int.reduceSub, eq_self, Bool.not_true, Bool.not_false, Bool.and_true, Bool.true_and, Bool.and_false, Bool.false_and, Bool.or_true, Bool.true_or, Bool.or_false, Bool.false_or, decide_true, decide_false, if_true, if_false, ite_true, ite_false, Bool.false_eq_true, and_true, true_and, and_false, false_and, not_true_eq_false, not_false_eq_true]
end
end K71

set_option maxRecDepth 100000
set_option maxHeartbeats 4000000
namespace K71
open PySem PySem.Spec PyProof.Rows L2 Fx
section
variable {d n k : Nat} {s : Sto} {α : Type} {w : α → Str} {xs : List α}
theorem words_ok (h : ∀ x ∈ xs, Wd (w x)) (hl : xs.length ≤ 400) : run pr (k + 1) "words_of" [.str (textOf w xs)] s = .ok (.loc s.len) (s.add (.lst (strTs (xs.map w)))) := by
  have tx := tx_of h hl
  have body : (b_words_of (run pr k) [some (.str (textOf w xs))] s).out = .ok (.loc s.len) (s.add (.lst (strTs (xs.map w)))) := by
    unfold b_words_of
    by_cases he : xs = []
    · subst he
      have e : textOf w ([] : List α) = "none" := rfl
      have q : (("none" : Str) = "none") = True := eq_true rfl
      simp only [e, ev_var, ev_var1, ev_c, ev_vout, ev_bin, ev_bin1, ev_bin2, ev_un, ev_un1, ev_lnil, ev_lcons, ev_lcons1, ev_lcons2, ev_ldef, ev_ldef1, ev_lstar, ev_lstar1, ev_lstar1b, ev_lstar2, ev_tup, ev_tup1, ev_lst, ev_lst1, ev_lchk, ev_lchk1, ev_call, ev_call1, ev_g, ev_b, ev_b1, ev_tmp, ev_tmp1, ev_comp, ev_comp1, ev_if, ev_if1t, ev_if1f, ev_bt, ev_bt1, ev_bt2, ev_bv, ev_bv1, ev_bnot, ev_bnot1, ev_band, ev_band1t, ev_band1f, ev_bor, ev_bor1t, ev_bor1f, ev_byes, ev_eand, ev_eand1, ev_eand2t, ev_eand2f, ev_eor, ev_eor1, ev_eor2t, ev_eor2f, ev_enot, ev_enot1, ev_enot2, ev_ch, ev_ch1, ev_ch2, ev_ch3t, ev_ch3f, ev_ch4, ev_m, ev_m1, ev_m2, ev_m3, ev_jo, ev_jo1, ev_jo2, ev_fs, ev_jfn, ev_jfc, ev_jf1, ev_dct, ev_kvn, ev_kvc, ev_kv1, ev_kv2, ev_kv3, ev_dct1, ev_pn, ev_ps, ev_ps1, ev_sl, ev_sl1, ev_sl2, ev_sl3, ev_snil, ev_seq, ev_seqn, ev_seqr, ev_seqb, ev_seqc, ev_seqx, ev_sex, ev_sex1, ev_ret, ev_ret1, ev_retn, ev_sif, ev_sif1t, ev_sif1f, ev_brk, ev_cnt, ev_asg, ev_asg1, ev_gnm, ev_gnil, ev_gcons, ev_gcons1, ev_gtp, ev_gst, ev_gst1, ev_gsub, ev_gsub1, ev_gsub2, ev_gsub3, ev_par, ev_par1, ev_par3, ev_par31, ev_aug, ev_aug1, ev_aug2, ev_aug3, ev_for, ev_for1, ev_lcomp, ev_lcomp1, ev_wipn, ev_wipc, ev_iseq, ev_iseq1, ev_seqt, ev_seqf, ev_seqs, ev_seql, ev_seql1, ev_rg1, ev_rg11, ev_rg2, ev_rg21, ev_en, ev_en1, ev_en2, ev_outr, ev_outn, ev_outx, ev_ixi, ev_ixk, ev_ixl, ev_ixll, ev_ixld, ev_ixkk, ev_ix1, ev_ixt, ev_ixf, vv_oAdd, vv_oAddI, vv_oSub, vv_oLt, vv_oLe, vv_oGt, vv_oGe, vv_oEq, vv_oNe, vv_eqs, vv_nes, vv_eqns, vv_isn, vv_notn, vv_in_non, vv_in_bl, vv_in_int, vv_in_str, vv_in_tup, vv_in_frz, vv_in_loc, vv_neg, vv_tb, vv_ti, vv_tn, vv_tt, vv_tf, vv_mul, vv_div, vv_mod, vv_pow7, vv_pow8, vv_pow9, vv_pow18, vv_pow12, vv_pow6, vv_pow5, vv_pow4, vv_pow10, vv_pow16, vv_abs, vv_min, vv_max, vv_inti, vv_intb, vv_stri, vv_strs, vv_lent, vv_lenf, vv_lens, vv_htup, vv_hlen, vv_is_non_bool, vv_is_non_int, vv_is_non_str, vv_is_non_tuple, vv_is_bl_bool, vv_is_bl_int, vv_is_bl_str, vv_is_bl_tuple, vv_is_int_bool, vv_is_int_int, vv_is_int_str, vv_is_int_tuple, vv_is_str_bool, vv_is_str_int, vv_is_str_str, vv_is_str_tuple, vv_is_tup_bool, vv_is_tup_int, vv_is_tup_str, vv_is_tup_tuple, vv_is_frz_bool, vv_is_frz_int, vv_is_frz_str, vv_is_frz_tuple, vv_iss, vv_items_t, vv_items_f, vv_spl, vv_fmts, vv_fmti, vv_cats, vv_cast0, vv_cast1, vv_cast2, vv_cast3, vv_cast4, vv_cast5, vv_cast6, vv_cast7, vv_cast8, vv_cast9, vv_cast10, vv_cast11, vv_line0, vv_line1, vv_line2, vv_line3, vv_line4, vv_line5, vv_line6, vv_line7, vv_line8, vv_isl, vv_isl1, vv_lenl, vv_lenl1, vv_tupl, vv_tupl1, vv_items_l, vv_items_l1, vv_lst_f, vv_lst_l, vv_lst_l1, vv_app, vv_app1, vv_pop0, vv_pop01, vv_ins0, vv_ins01, vv_mull, vv_mull0, vv_mull1, vv_addl, vv_addl1, vv_slf, vv_slt, List.getElem?_cons_zero, List.getElem?_cons_succ, List.set_cons_zero, List.set_cons_succ, List.map_cons, List.map_nil, List.length_cons, List.length_nil, List.replicate_succ, List.replicate_zero, List.cons_append, List.nil_append, List.append_nil, Option.map_some, Option.map_none, Option.bind_some, Nat.reduceSub, Nat.reduceAdd, Nat.reduceMul, Nat.reduceLeDiff, Nat.zero_le, Int.reduceLT, Int.reduceLE, Int.reduceNeg, Int.reduceAdd, Int.reduceEq, Int.reduceMul, Int.reduceSub, eq_self, Bool.not_true, Bool.not_false, Bool.and_true, Bool.true_and, Bool.and_false, Bool.false_and, Bool.or_true, Bool.true_or, Bool.or_false, Bool.false_or, decide_true, decide_false, if_true, if_false, ite_true, ite_false, Bool.false_eq_true, and_true, true_and, and_false, false_and, not_true_eq_false, not_false_eq_true]
      rfl
    · have e : textOf w xs = Txt.join " " (xs.map w) := by
        unfold textOf
        rw [if_neg]
        cases xs with
        | nil => exact absurd rfl he
        | cons a r => simp
      have hne := text_ne h he
      have sp := split_at (s := s) (z := textOf w xs) (ps := xs.map w) one_lens.2.2.2.2 (by have := tx.ln; omega) (by
        rw [e]
        exact splitN tl1.2.2.2.2.1 (by decide) (by simpa using he) fun p hp => by
          obtain ⟨x, hx, rfl⟩ := List.mem_map.mp hp
          exact (h x hx).sp)
      rw [← e] at hne
      simp only [hne, sp, ev_var, ev_var1, ev_c, ev_vout, ev_bin, ev_bin1, ev_bin2, ev_un, ev_un1, ev_lnil, ev_lcons, ev_lcons1, ev_lcons2, ev_ldef, ev_ldef1, ev_lstar, ev_lstar1, ev_lstar1b, ev_lstar2, ev_tup, ev_tup1, ev_lst, ev_lst1, ev_lchk, ev_lchk1, ev_call, ev_call1, ev_g, ev_b, ev_b1, ev_tmp, ev_tmp1, ev_comp, ev_comp1, ev_if, ev_if1t, ev_if1f, ev_bt, ev_bt1, ev_bt2, ev_bv, ev_bv1, ev_bnot, ev_bnot1, ev_band, ev_band1t, ev_band1f, ev_bor, ev_bor1t, ev_bor1f, ev_byes, ev_eand, ev_eand1, ev_eand2t, ev_eand2f, ev_eor, ev_eor1, ev_eor2t, ev_eor2f, ev_enot, ev_enot1, ev_enot2, ev_ch, ev_ch1, ev_ch2, ev_ch3t, ev_ch3f, ev_ch4, ev_m, ev_m1, ev_m2, ev_m3, ev_jo, ev_jo1, ev_jo2, ev_fs, ev_jfn, ev_jfc, ev_jf1, ev_dct, ev_kvn, ev_kvc, ev_kv1, ev_kv2, ev_kv3, ev_dct1, ev_pn, ev_ps, ev_ps1, ev_sl, ev_sl1, ev_sl2, ev_sl3, ev_snil, ev_seq, ev_seqn, ev_seqr, ev_seqb, ev_seqc, ev_seqx, ev_sex, ev_sex1, ev_ret, ev_ret1, ev_retn, ev_sif, ev_sif1t, ev_sif1f, ev_brk, ev_cnt, ev_asg, ev_asg1, ev_gnm, ev_gnil, ev_gcons, ev_gcons1, ev_gtp, ev_gst, ev_gst1, ev_gsub, ev_gsub1, ev_gsub2, ev_gsub3, ev_par, ev_par1, ev_par3, ev_par31, ev_aug, ev_aug1, ev_aug2, ev_aug3, ev_for, ev_for1, ev_lcomp, ev_lcomp1, ev_wipn, ev_wipc, ev_iseq, ev_iseq1, ev_seqt, ev_seqf, ev_seqs, ev_seql, ev_seql1, ev_rg1, ev_rg11, ev_rg2, ev_rg21, ev_en, ev_en1, ev_en2, ev_outr, ev_outn, ev_outx, ev_ixi, ev_ixk, ev_ixl, ev_ixll, ev_ixld, ev_ixkk, ev_ix1, ev_ixt, ev_ixf, vv_oAdd, vv_oAddI, vv_oSub, vv_oLt, vv_oLe, vv_oGt, vv_oGe, vv_oEq, vv_oNe, vv_eqs, vv_nes, vv_eqns, vv_isn, vv_notn, vv_in_non, vv_in_bl, vv_in_int, vv_in_str, vv_in_tup, vv_in_frz, vv_in_loc, vv_neg, vv_tb, vv_ti, vv_tn, vv_tt, vv_tf, vv_mul, vv_div, vv_mod, vv_pow7, vv_pow8, vv_pow9, vv_pow18, vv_pow12, vv_pow6, vv_pow5, vv_pow4, vv_pow10, vv_pow16, vv_abs, vv_min, vv_max, vv_inti, vv_intb, vv_stri, vv_strs, vv_lent, vv_lenf, vv_lens, vv_htup, vv_hlen, vv_is_non_bool, vv_is_non_int, vv_is_non_str, vv_is_non_tuple, vv_is_bl_bool, vv_is_bl_int, vv_is_bl_str, vv_is_bl_tuple, vv_is_int_bool, vv_is_int_int, vv_is_int_str, vv_is_int_tuple, vv_is_str_bool, vv_is_str_int, vv_is_str_str, vv_is_str_tuple, vv_is_tup_bool, vv_is_tup_int, vv_is_tup_str, vv_is_tup_tuple, vv_is_frz_bool, vv_is_frz_int, vv_is_frz_str, vv_is_frz_tuple, vv_iss, vv_items_t, vv_items_f, vv_spl, vv_fmts, vv_fmti, vv_cats, vv_cast0, vv_cast1, vv_cast2, vv_cast3, vv_cast4, vv_cast5, vv_cast6, vv_cast7, vv_cast8, vv_cast9, vv_cast10, vv_cast11, vv_line0, vv_line1, vv_line2, vv_line3, vv_line4, vv_line5, vv_line6, vv_line7, vv_line8, vv_isl, vv_isl1, vv_lenl, vv_lenl1, vv_tupl, vv_tupl1, vv_items_l, vv_items_l1, vv_lst_f, vv_lst_l, vv_lst_l1, vv_app, vv_app1, vv_pop0, vv_pop01, vv_ins0, vv_ins01, vv_mull, vv_mull0, vv_mull1, vv_addl, vv_addl1, vv_slf, vv_slt, List.getElem?_cons_zero, List.getElem?_cons_succ, List.set_cons_zero, List.set_cons_succ, List.map_cons, List.map_nil, List.length_cons, List.length_nil, List.replicate_succ, List.replicate_zero, List.cons_append, List.nil_append, List.append_nil, Option.map_some, Option.map_none, Option.bind_some, Nat.reduceSub, Nat.reduceAdd, Nat.reduceMul, Nat.reduceLeDiff, Nat.zero_le, Int.reduceLT, Int.reduceLE, Int.reduceNeg, Int.reduceAdd, Int.reduceEq, Int.reduceMul, Int.reduceSub, eq_self, Bool.not_true, Bool.not_false, Bool.and_true, Bool.true_and, Bool.and_false, Bool.false_and, Bool.or_true, Bool.true_or, Bool.or_false, Bool.false_or, decide_true, decide_false, if_true, if_false, ite_true, ite_false, Bool.false_eq_true, and_true, true_and, and_false, false_and, not_true_eq_false, not_false_eq_true]
  refine (run_eq pr_words_of rfl).trans ((congrArg _ body).trans ?_)
  simp only [gcR]
  rw [if_pos (show (s.add (.lst (strTs (xs.map w)))).kp = s.kp from rfl), cut_self]
  rw [len_add]
  show s.len + 1 ≤ max s.len (s.len + 1)
  omega
theorem enum_at {ts : List T} {i : Nat} {t : T} (h : ((enumP ts).map fun p => T.tup [p.1, p.2])[i]? = some t) : ∃ u, ts[i]? = some u ∧ t = .tup [.int (i : Int), u] := by
  simp only [enumP, List.getElem?_map, List.getElem?_zipWith] at h
  cases e : ts[i]? with
  | none => simp [e] at h
  | some u =>
    have hi : i < ts.length := (List.getElem?_eq_some_iff.mp e).1
    refine ⟨u, rfl, ?_⟩
    have eu : ts[i] = u := by
      have := List.getElem?_eq_getElem hi
      rw [e] at this; exact (Option.some.inj this).symm
    simp [hi, eu] at h
    exact h.symm
theorem enum_len {ts : List T} : ((enumP ts).map fun p => T.tup [p.1, p.2]).length = ts.length := by simp [enumP]
theorem enc_hi {enc : α → T} (h : ∀ x, (enc x).hi = 0) : ∀ l : List α, O.hi (.lst (l.map enc)) = 0
  | [] => rfl
  | a :: r => by
    have ih := enc_hi h r
    show max (enc a).hi (T.his (r.map enc)) = 0
    rw [h a]
    have : T.his (r.map enc) = 0 := ih
    rw [this]; rfl
theorem tup_hi {enc : α → T} (h : ∀ x, (enc x).hi = 0) (l : List α) : T.hi (.tup (l.map enc)) = 0 := enc_hi h l
/-- found so far behind s -/
structure Fnd (s : Sto) (words : List T) (enc : α → T) (xs : List α) (i : Nat) (s' : Sto) : Prop where
  fd : s'.get s.len = some (.lst ((xs.take i).map enc))
  wd : s'.get (s.len + 1) = some (.lst words)
  gr : Gro s s'
theorem Fnd.step {words : List T} {enc : α → T} {i : Nat} {s' : Sto} {x : α} (f : Fnd s words enc xs i s') (hx : xs[i]? = some x) (hh : ∀ x, (enc x).hi = 0) : Fnd s words enc xs (i + 1) (s'.put s.len (.lst ((xs.take i).map enc ++ [enc x]))) := by
  have hi : i < xs.length := (List.getElem?_eq_some_iff.mp hx).1
  have ex : xs[i] = x := by
    have := List.getElem?_eq_getElem hi
    rw [hx] at this; exact (Option.some.inj this).symm
  have e : (xs.take i).map enc ++ [enc x] = (xs.take (i + 1)).map enc := by
    rw [List.take_succ_eq_append_getElem hi, List.map_append, ex]; rfl
  rw [e]
  refine ⟨get_put (lt_of_get f.fd), (get_put_ne (by omega)).trans f.wd, f.gr.put (Nat.le_refl _) ?_⟩
  rw [enc_hi hh]; exact Nat.zero_le _
theorem parse_lamps_ok {xs : List (Str × Int)} (h : ∀ x ∈ xs, okL x) (hl : xs.length ≤ 6) : run pr (k + 4) "parse_lamps" [.str (textOf wL xs)] s = .ok (.tup (xs.map encL)) s := by
  have hw : ∀ x ∈ xs, Wd (wL x) := fun x hx => wd_L (h x hx)
  let words := strTs (xs.map wL)
  let s1 := s.add (.lst [])
  let s2 := s1.add (.lst words)
  have e1 : run pr (k + 3) "words_of" [.str (textOf wL xs)] s1 = .ok (.loc s1.len) s2 := words_ok hw (by omega)
  have q1 : s.add (.lst []) = s1 := rfl
  have l1 : s1.len = s.len + 1 := len_add
  have g2 : s2.get (s.len + 1) = some (.lst words) := by rw [← l1]; exact get_add
  have f0 : s2.get s.len = some (.lst []) := get_add_old get_add
  let I : Nat → Fx.Env → Sto → Prop := fun i r s' => (∃ a b c, r = [some (.str (textOf wL xs)), some (.loc s.len), a, b, c]) ∧ Fnd s words encL xs i s'
  obtain ⟨r', s', e2, ⟨a, b, c, rfl⟩, f2⟩ := forL_inv (I := I) (chk := chkL (s.len + 1) words) (g := gTp 2 (gsCons (gNm 2) (gsCons (gNm 3) gsNil)))
    (b := sSeq (sAsg (eCall (run pr (k + 3)) "read_lamp" (lDef (lCons (eVar 3) lNil) [])) (gNm 4)) (sSeq (sIf (bOr (bV (eBin oIsN (eVar 4) (eC .non))) (bV (eBin oGe (eVar 2) (eC (.int 6))))) (fun _ _ => .bad) sNil) (sEx (eM "list" mAppend (eVar 1) (lCons (eVar 4) lNil)))))
    (ts := (enumP words).map fun p => T.tup [p.1, p.2]) (r := [some (.str (textOf wL xs)), some (.loc s.len), none, none, none]) (s := s2)
    (fun i r s' hI => chkL_iff.mpr hI.2.wd)
    (fun i t r s' ht hI => by
      obtain ⟨⟨a, b, c, rfl⟩, f⟩ := hI
      obtain ⟨u, hu, rfl⟩ := enum_at ht
      have hu' : (xs.map wL)[i]?.map T.str = some u := by simpa [words, strTs] using hu
      cases ex : xs[i]? with
      | none => simp [ex] at hu'
      | some x =>
        simp [ex] at hu'
        subst hu'
        have hx : x ∈ xs := List.mem_of_getElem? ex
        have hi : i < xs.length := (List.getElem?_eq_some_iff.mp ex).1
        have rl := fun s => read_lamp_ok (k := k) (s := s) (h x hx)
        have h6 : ¬ (6 : Int) ≤ (i : Int) := by omega
        have nn : isNon (encL x) = false := rfl
        have hz : ((xs.take i).map encL).length < sizeLine := by rw [List.length_map, List.length_take, sizeLine_eq]; omega
        have fs := f.step ex (fun _ => rfl)
        refine ⟨[some (.str (textOf wL xs)), some (.loc s.len), some (.int i), some (.str (wL x)), c], s', [some (.str (textOf wL xs)), some (.loc s.len), some (.int i), some (.str (wL x)), some (encL x)], _, by simp only [ev_var, ev_var1, ev_c, ev_vout, ev_bin, ev_bin1, ev_bin2, ev_un, ev_un1, ev_lnil, ev_lcons, ev_lcons1, ev_lcons2, ev_ldef, ev_ldef1, ev_lstar, ev_lstar1, ev_lstar1b, ev_lstar2, ev_tup, ev_tup1, ev_lst, ev_lst1, ev_lchk, ev_lchk1, ev_call, ev_call1, ev_g, ev_b, ev_b1, ev_tmp, ev_tmp1, ev_comp, ev_comp1, ev_if, ev_if1t, ev_if1f, ev_bt, ev_bt1, ev_bt2, ev_bv, ev_bv1, ev_bnot, ev_bnot1, ev_band, ev_band1t, ev_band1f, ev_bor, ev_bor1t, ev_bor1f, ev_byes, ev_eand, ev_eand1, ev_eand2t, ev_eand2f, ev_eor, ev_eor1, ev_eor2t, ev_eor2f, ev_enot, ev_enot1, ev_enot2, ev_ch, ev_ch1, ev_ch2, ev_ch3t, ev_ch3f, ev_ch4, ev_m, ev_m1, ev_m2, ev_m3, ev_jo, ev_jo1, ev_jo2, ev_fs, ev_jfn, ev_jfc, ev_jf1, ev_dct, ev_kvn, ev_kvc, ev_kv1, ev_kv2, ev_kv3, ev_dct1, ev_pn, ev_ps, ev_ps1, ev_sl, ev_sl1, ev_sl2, ev_sl3, ev_snil, ev_seq, ev_seqn, ev_seqr, ev_seqb, ev_seqc, ev_seqx, ev_sex, ev_sex1, ev_ret, ev_ret1, ev_retn, ev_sif, ev_sif1t, ev_sif1f, ev_brk, ev_cnt, ev_asg, ev_asg1, ev_gnm, ev_gnil, ev_gcons, ev_gcons1, ev_gtp, ev_gst, ev_gst1, ev_gsub, ev_gsub1, ev_gsub2, ev_gsub3, ev_par, ev_par1, ev_par3, ev_par31, ev_aug, ev_aug1, ev_aug2, ev_aug3, ev_for, ev_for1, ev_lcomp, ev_lcomp1, ev_wipn, ev_wipc, ev_iseq, ev_iseq1, ev_seqt, ev_seqf, ev_seqs, ev_seql, ev_seql1, ev_rg1, ev_rg11, ev_rg2, ev_rg21, ev_en, ev_en1, ev_en2, ev_outr, ev_outn, ev_outx, ev_ixi, ev_ixk, ev_ixl, ev_ixll, ev_ixld, ev_ixkk, ev_ix1, ev_ixt, ev_ixf, vv_oAdd, vv_oAddI, vv_oSub, vv_oLt, vv_oLe, vv_oGt, vv_oGe, vv_oEq, vv_oNe, vv_eqs, vv_nes, vv_eqns, vv_isn, vv_notn, vv_in_non, vv_in_bl, vv_in_int, vv_in_str, vv_in_tup, vv_in_frz, vv_in_loc, vv_neg, vv_tb, vv_ti, vv_tn, vv_tt, vv_tf, vv_mul, vv_div, vv_mod, vv_pow7, vv_pow8, vv_pow9, vv_pow18, vv_pow12, vv_pow6, vv_pow5, vv_pow4, vv_pow10, vv_pow16, vv_abs, vv_min, vv_max, vv_inti, vv_intb, vv_stri, vv_strs, vv_lent, vv_lenf, vv_lens, vv_htup, vv_hlen, vv_is_non_bool, vv_is_non_int, vv_is_non_str, vv_is_non_tuple, vv_is_bl_bool, vv_is_bl_int, vv_is_bl_str, vv_is_bl_tuple, vv_is_int_bool, vv_is_int_int, vv_is_int_str, vv_is_int_tuple, vv_is_str_bool, vv_is_str_int, vv_is_str_str, vv_is_str_tuple, vv_is_tup_bool, vv_is_tup_int, vv_is_tup_str, vv_is_tup_tuple, vv_is_frz_bool, vv_is_frz_int, vv_is_frz_str, vv_is_frz_tuple, vv_iss, vv_items_t, vv_items_f, vv_spl, vv_fmts, vv_fmti, vv_cats, vv_cast0, vv_cast1, vv_cast2, vv_cast3, vv_cast4, vv_cast5, vv_cast6, vv_cast7, vv_cast8, vv_cast9, vv_cast10, vv_cast11, vv_line0, vv_line1, vv_line2, vv_line3, vv_line4, vv_line5, vv_line6, vv_line7, vv_line8, vv_isl, vv_isl1, vv_lenl, vv_lenl1, vv_tupl, vv_tupl1, vv_items_l, vv_items_l1, vv_lst_f, vv_lst_l, vv_lst_l1, vv_app, vv_app1, vv_pop0, vv_pop01, vv_ins0, vv_ins01, vv_mull, vv_mull0, vv_mull1, vv_addl, vv_addl1, vv_slf, vv_slt, List.getElem?_cons_zero, List.getElem?_cons_succ, List.set_cons_zero, List.set_cons_succ, List.map_cons, List.map_nil, List.length_cons, List.length_nil, List.replicate_succ, List.replicate_zero, List.cons_append, List.nil_append, List.append_nil, Option.map_some, Option.map_none, Option.bind_some, Nat.reduceSub, Nat.reduceAdd, Nat.reduceMul, Nat.reduceLeDiff, Nat.zero_le, Int.reduceLT, Int.reduceLE, Int.reduceNeg, Int.reduceAdd, Int.reduceEq, Int.reduceMul, Int.reduceSub, eq_self, Bool.not_true, Bool.not_false, Bool.and_true, Bool.true_and, Bool.and_false, Bool.false_and, Bool.or_true, Bool.true_or, Bool.or_false, Bool.false_or, decide_true, decide_false, if_true, if_false, ite_true, ite_false, Bool.false_eq_true, and_true, true_and, and_false, false_and, not_true_eq_false, not_false_eq_true], ?_, ⟨_, _, _, rfl⟩, fs⟩
        simp only [rl, nn, h6, f.fd, hz, ev_var, ev_var1, ev_c, ev_vout, ev_bin, ev_bin1, ev_bin2, ev_un, ev_un1, ev_lnil, ev_lcons, ev_lcons1, ev_lcons2, ev_ldef, ev_ldef1, ev_lstar, ev_lstar1, ev_lstar1b, ev_lstar2, ev_tup, ev_tup1, ev_lst, ev_lst1, ev_lchk, ev_lchk1, ev_call, ev_call1, ev_g, ev_b, ev_b1, ev_tmp, ev_tmp1, ev_comp, ev_comp1, ev_if, ev_if1t, ev_if1f, ev_bt, ev_bt1, ev_bt2, ev_bv, ev_bv1, ev_bnot, ev_bnot1, ev_band, ev_band1t, ev_band1f, ev_bor, ev_bor1t, ev_bor1f, ev_byes, ev_eand, ev_eand1, ev_eand2t, ev_eand2f, ev_eor, ev_eor1, ev_eor2t, ev_eor2f, ev_enot, ev_enot1, ev_enot2, ev_ch, ev_ch1, ev_ch2, ev_ch3t, ev_ch3f, ev_ch4, ev_m, ev_m1, ev_m2, ev_m3, ev_jo, ev_jo1, ev_jo2, ev_fs, ev_jfn, ev_jfc, ev_jf1, ev_dct, ev_kvn, ev_kvc, ev_kv1, ev_kv2, ev_kv3, ev_dct1, ev_pn, ev_ps, ev_ps1, ev_sl, ev_sl1, ev_sl2, ev_sl3, ev_snil, ev_seq, ev_seqn, ev_seqr, ev_seqb, ev_seqc, ev_seqx, ev_sex, ev_sex1, ev_ret, ev_ret1, ev_retn, ev_sif, ev_sif1t, ev_sif1f, ev_brk, ev_cnt, ev_asg, ev_asg1, ev_gnm, ev_gnil, ev_gcons, ev_gcons1, ev_gtp, ev_gst, ev_gst1, ev_gsub, ev_gsub1, ev_gsub2, ev_gsub3, ev_par, ev_par1, ev_par3, ev_par31, ev_aug, ev_aug1, ev_aug2, ev_aug3, ev_for, ev_for1, ev_lcomp, ev_lcomp1, ev_wipn, ev_wipc, ev_iseq, ev_iseq1, ev_seqt, ev_seqf, ev_seqs, ev_seql, ev_seql1, ev_rg1, ev_rg11, ev_rg2, ev_rg21, ev_en, ev_en1, ev_en2, ev_outr, ev_outn, ev_outx, ev_ixi, ev_ixk, ev_ixl, ev_ixll, ev_ixld, ev_ixkk, ev_ix1, ev_ixt, ev_ixf, vv_oAdd, vv_oAddI, vv_oSub, vv_oLt, vv_oLe, vv_oGt, vv_oGe, vv_oEq, vv_oNe, vv_eqs, vv_nes, vv_eqns, vv_isn, vv_notn, vv_in_non, vv_in_bl, vv_in_int, vv_in_str, vv_in_tup, vv_in_frz, vv_in_loc, vv_neg, vv_tb, vv_ti, vv_tn, vv_tt, vv_tf, vv_mul, vv_div, vv_mod, vv_pow7, vv_pow8, vv_pow9, vv_pow18, vv_pow12, vv_pow6, vv_pow5, vv_pow4, vv_pow10, vv_pow16, vv_abs, vv_min, vv_max, vv_inti, vv_intb, vv_stri, vv_strs, vv_lent, vv_lenf, vv_lens, vv_htup, vv_hlen, vv_is_non_bool, vv_is_non_int, vv_is_non_str, vv_is_non_tuple, vv_is_bl_bool, vv_is_bl_int, vv_is_bl_str, vv_is_bl_tuple, vv_is_int_bool, vv_is_int_int, vv_is_int_str, vv_is_int_tuple, vv_is_str_bool, vv_is_str_int, vv_is_str_str, vv_is_str_tuple, vv_is_tup_bool, vv_is_tup_int, vv_is_tup_str, vv_is_tup_tuple, vv_is_frz_bool, vv_is_frz_int, vv_is_frz_str, vv_is_frz_tuple, vv_iss, vv_items_t, vv_items_f, vv_spl, vv_fmts, vv_fmti, vv_cats, vv_cast0, vv_cast1, vv_cast2, vv_cast3, vv_cast4, vv_cast5, vv_cast6, vv_cast7, vv_cast8, vv_cast9, vv_cast10, vv_cast11, vv_line0, vv_line1, vv_line2, vv_line3, vv_line4, vv_line5, vv_line6, vv_line7, vv_line8, vv_isl, vv_isl1, vv_lenl, vv_lenl1, vv_tupl, vv_tupl1, vv_items_l, vv_items_l1, vv_lst_f, vv_lst_l, vv_lst_l1, vv_app, vv_app1, vv_pop0, vv_pop01, vv_ins0, vv_ins01, vv_mull, vv_mull0, vv_mull1, vv_addl, vv_addl1, vv_slf, vv_slt, List.getElem?_cons_zero, List.getElem?_cons_succ, List.set_cons_zero, List.set_cons_succ, List.map_cons, List.map_nil, List.length_cons, List.length_nil, List.replicate_succ, List.replicate_zero, List.cons_append, List.nil_append, List.append_nil, Option.map_some, Option.map_none, Option.bind_some, Nat.reduceSub, Nat.reduceAdd, Nat.reduceMul, Nat.reduceLeDiff, Nat.zero_le, Int.reduceLT, Int.reduceLE, Int.reduceNeg, Int.reduceAdd, Int.reduceEq, Int.reduceMul, Int.reduceSub, eq_self, Bool.not_true, Bool.not_false, Bool.and_true, Bool.true_and, Bool.and_false, Bool.false_and, Bool.or_true, Bool.true_or, Bool.or_false, Bool.false_or, decide_true, decide_false, if_true, if_false, ite_true, ite_false, Bool.false_eq_true, and_true, true_and, and_false, false_and, not_true_eq_false, not_false_eq_true])
    ⟨⟨none, none, none, rfl⟩, f0, g2, Gro.add.trans Gro.add⟩
  rw [enum_len] at f2
  have lw : words.length = xs.length := by simp [words, strTs]
  have ff := f2.fd
  rw [lw, List.take_length] at ff
  refine run_gro pr_parse_lamps rfl ⟨s', ?_, f2.gr⟩ (by rw [tup_hi fun _ => rfl]; exact Nat.zero_le _)
  unfold b_parse_lamps
  rw [← l1] at g2 e2
  simp only [q1, e1, g2, e2, ff, ev_var, ev_var1, ev_c, ev_vout, ev_bin, ev_bin1, ev_bin2, ev_un, ev_un1, ev_lnil, ev_lcons, ev_lcons1, ev_lcons2, ev_ldef, ev_ldef1, ev_lstar, ev_lstar1, ev_lstar1b, ev_lstar2, ev_tup, ev_tup1, ev_lst, ev_lst1, ev_lchk, ev_lchk1, ev_call, ev_call1, ev_g, ev_b, ev_b1, ev_tmp, ev_tmp1, ev_comp, ev_comp1, ev_if, ev_if1t, ev_if1f, ev_bt, ev_bt1, ev_bt2, ev_bv, ev_bv1, ev_bnot, ev_bnot1, ev_band, ev_band1t, ev_band1f, ev_bor, ev_bor1t, ev_bor1f, ev_byes, ev_eand, ev_eand1, ev_eand2t, ev_eand2f, ev_eor, ev_eor1, ev_eor2t, ev_eor2f, ev_enot, ev_enot1, ev_enot2, ev_ch, ev_ch1, ev_ch2, ev_ch3t, ev_ch3f, ev_ch4, ev_m, ev_m1, ev_m2, ev_m3, ev_jo, ev_jo1, ev_jo2, ev_fs, ev_jfn, ev_jfc, ev_jf1, ev_dct, ev_kvn, ev_kvc, ev_kv1, ev_kv2, ev_kv3, ev_dct1, ev_pn, ev_ps, ev_ps1, ev_sl, ev_sl1, ev_sl2, ev_sl3, ev_snil, ev_seq, ev_seqn, ev_seqr, ev_seqb, ev_seqc, ev_seqx, ev_sex, ev_sex1, ev_ret, ev_ret1, ev_retn, ev_sif, ev_sif1t, ev_sif1f, ev_brk, ev_cnt, ev_asg, ev_asg1, ev_gnm, ev_gnil, ev_gcons, ev_gcons1, ev_gtp, ev_gst, ev_gst1, ev_gsub, ev_gsub1, ev_gsub2, ev_gsub3, ev_par, ev_par1, ev_par3, ev_par31, ev_aug, ev_aug1, ev_aug2, ev_aug3, ev_for, ev_for1, ev_lcomp, ev_lcomp1, ev_wipn, ev_wipc, ev_iseq, ev_iseq1, ev_seqt, ev_seqf, ev_seqs, ev_seql, ev_seql1, ev_rg1, ev_rg11, ev_rg2, ev_rg21, ev_en, ev_en1, ev_en2, ev_outr, ev_outn, ev_outx, ev_ixi, ev_ixk, ev_ixl, ev_ixll, ev_ixld, ev_ixkk, ev_ix1, ev_ixt, ev_ixf, vv_oAdd, vv_oAddI, vv_oSub, vv_oLt, vv_oLe, vv_oGt, vv_oGe, vv_oEq, vv_oNe, vv_eqs, vv_nes, vv_eqns, vv_isn, vv_notn, vv_in_non, vv_in_bl, vv_in_int, vv_in_str, vv_in_tup, vv_in_frz, vv_in_loc, vv_neg, vv_tb, vv_ti, vv_tn, vv_tt, vv_tf, vv_mul, vv_div, vv_mod, vv_pow7, vv_pow8, vv_pow9, vv_pow18, vv_pow12, vv_pow6, vv_pow5, vv_pow4, vv_pow10, vv_pow16, vv_abs, vv_min, vv_max, vv_inti, vv_intb, vv_stri, vv_strs, vv_lent, vv_lenf, vv_lens, vv_htup, vv_hlen, vv_is_non_bool, vv_is_non_int, vv_is_non_str, vv_is_non_tuple, vv_is_bl_bool, vv_is_bl_int, vv_is_bl_str, vv_is_bl_tuple, vv_is_int_bool, vv_is_int_int, vv_is_int_str, vv_is_int_tuple, vv_is_str_bool, vv_is_str_int, vv_is_str_str, vv_is_str_tuple, vv_is_tup_bool, vv_is_tup_int, vv_is_tup_str, vv_is_tup_tuple, vv_is_frz_bool, vv_is_frz_int, vv_is_frz_str, vv_is_frz_tuple, vv_iss, vv_items_t, vv_items_f, vv_spl, vv_fmts, vv_fmti, vv_cats, vv_cast0, vv_cast1, vv_cast2, vv_cast3, vv_cast4, vv_cast5, vv_cast6, vv_cast7, vv_cast8, vv_cast9, vv_cast10, vv_cast11, vv_line0, vv_line1, vv_line2, vv_line3, vv_line4, vv_line5, vv_line6, vv_line7, vv_line8, vv_isl, vv_isl1, vv_lenl, vv_lenl1, vv_tupl, vv_tupl1, vv_items_l, vv_items_l1, vv_lst_f, vv_lst_l, vv_lst_l1, vv_app, vv_app1, vv_pop0, vv_pop01, vv_ins0, vv_ins01, vv_mull, vv_mull0, vv_mull1, vv_addl, vv_addl1, vv_slf, vv_slt, List.getElem?_cons_zero, List.getElem?_cons_succ, List.set_cons_zero, List.set_cons_succ, List.map_cons, List.map_nil, List.length_cons, List.length_nil, List.replicate_succ, List.replicate_zero, List.cons_append, List.nil_append, List.append_nil, Option.map_some, Option.map_none, Option.bind_some, Nat.reduceSub, Nat.reduceAdd, Nat.reduceMul, Nat.reduceLeDiff, Nat.zero_le, Int.reduceLT, Int.reduceLE, Int.reduceNeg, Int.reduceAdd, Int.reduceEq, Int.reduceMul, Int.reduceSub, eq_self, Bool.not_true, Bool.not_false, Bool.and_true, Bool.true_and, Bool.and_false, Bool.false_and, Bool.or_true, Bool.true_or, Bool.or_false, Bool.false_or, decide_true, decide_false, if_true, if_false, ite_true, ite_false, Bool.false_eq_true, and_true, true_and, and_false, false_and, not_true_eq_false, not_false_eq_true]
end
end K71

set_option maxRecDepth 100000
set_option maxHeartbeats 4000000
namespace K71
open PySem PySem.Spec PyProof.Rows L2 Fx
section
variable {d n k : Nat} {s : Sto} {α : Type} {w : α → Str}
/-- one behind the other -/
def Inc (fst lst : α → Int) : Int → List α → Prop
  | _, [] => True
  | a, x :: r => a < fst x ∧ Inc fst lst (lst x) r
theorem inc_at {fst lst : α → Int} : ∀ {xs : List α} {a : Int} {i : Nat} {x : α}, Inc fst lst a xs → xs[i]? = some x → (if i = 0 then a else ((xs[i - 1]?).map lst).getD a) < fst x
  | [], _, _, _, _, h => by simp at h
  | y :: r, a, 0, x, hI, h => by simp at h; subst h; exact hI.1
  | y :: r, a, i + 1, x, hI, h => by
    have ih := inc_at (i := i) hI.2 (by simpa using h)
    cases i with
    | zero => simpa using ih
    | succ j =>
      simp only [Nat.add_eq_zero_iff, Nat.succ_ne_zero, false_and, and_false, if_false, Nat.add_sub_cancel, List.getElem?_cons_succ] at ih ⊢
      cases e : r[j]? with
      | none =>
        have : r.length ≤ j := List.getElem?_eq_none_iff.mp e
        have h2 : j + 1 < r.length := by
          have := (List.getElem?_eq_some_iff.mp (show r[j + 1]? = some x by simpa using h)).1
          exact this
        omega
      | some z => rw [e] at ih; simpa using ih
/-- what stands behind i turns -/
def lastAt (lst : α → Int) (xs : List α) (i : Nat) : Int := if i = 0 then -1 else ((xs[i - 1]?).map lst).getD (-1)
theorem lastAt_succ {lst : α → Int} {xs : List α} {i : Nat} {x : α} (h : xs[i]? = some x) : lastAt lst xs (i + 1) = lst x := by
  simp [lastAt, h]
theorem parse_log_ok {xs : List (Int × Int)} (h : ∀ x ∈ xs, okP x) (hl : xs.length ≤ 60) (hI : Inc (fun q : Int × Int => q.1) (fun q => q.2) (-1) xs) : run pr (k + 4) "parse_log" [.str (textOf wP xs)] s = .ok (.tup (xs.map encP)) s := by
  have hw : ∀ x ∈ xs, Wd (wP x) := fun x hx => wd_P (h x hx)
  let words := strTs (xs.map wP)
  let s1 := s.add (.lst [])
  let s2 := s1.add (.lst words)
  have e1 : run pr (k + 3) "words_of" [.str (textOf wP xs)] s1 = .ok (.loc s1.len) s2 := words_ok hw (by omega)
  have q1 : s.add (.lst []) = s1 := rfl
  have l1 : s1.len = s.len + 1 := len_add
  have g2 : s2.get (s.len + 1) = some (.lst words) := by rw [← l1]; exact get_add
  have f0 : s2.get s.len = some (.lst []) := get_add_old get_add
  let I : Nat → Fx.Env → Sto → Prop := fun i r s' => (∃ a b c, r = [some (.str (textOf wP xs)), some (.loc s.len), some (.int (lastAt (fun q : Int × Int => q.2) xs i)), a, b, c]) ∧ Fnd s words encP xs i s'
  obtain ⟨r', s', e2, ⟨a, b, c, rfl⟩, f2⟩ := forL_inv (I := I) (chk := chkL (s.len + 1) words) (g := gTp 2 (gsCons (gNm 3) (gsCons (gNm 4) gsNil)))
    (b := sSeq (sAsg (eCall (run pr (k + 3)) "read_pair" (lDef (lCons (eVar 4) (lCons (eC (.str "-")) lNil)) [])) (gNm 5)) (sSeq (sIf (bOr (bNot (bT (eCall (run pr (k + 3)) "is_stretch" (lDef (lCons (eVar 5) lNil) [])))) (bOr (bV (eBin oLe (eBin oIx (eVar 5) (eC (.int 0))) (eVar 2))) (bV (eBin oGe (eVar 3) (eC (.int 60)))))) (fun _ _ => .bad) sNil) (sSeq (sEx (eM "list" mAppend (eVar 1) (lCons (eVar 5) lNil))) (sAsg (eBin oIx (eVar 5) (eC (.int 1))) (gNm 2)))))
    (ts := (enumP words).map fun p => T.tup [p.1, p.2]) (r := [some (.str (textOf wP xs)), some (.loc s.len), some (.int (-1)), none, none, none]) (s := s2)
    (fun i r s' hI => chkL_iff.mpr hI.2.wd)
    (fun i t r s' ht hIv => by
      obtain ⟨⟨a, b, c, rfl⟩, f⟩ := hIv
      obtain ⟨u, hu, rfl⟩ := enum_at ht
      have hu' : (xs.map wP)[i]?.map T.str = some u := by simpa [words, strTs] using hu
      cases ex : xs[i]? with
      | none => simp [ex] at hu'
      | some x =>
        simp [ex] at hu'
        subst hu'
        have hx : x ∈ xs := List.mem_of_getElem? ex
        have hi : i < xs.length := (List.getElem?_eq_some_iff.mp ex).1
        have hxx := h x hx
        have rl := fun s => read_two (k := k + 1) (s := s) (a := x.1) (b := x.2) tl1.2.1 (by decide) (by decide) hxx.1 (by have := hxx.2.1; have := hxx.2.2; omega) (by have := hxx.2.1; have := hxx.1; omega) (by have := hxx.2.2; omega)
        have is := fun s => is_stretch_ok (k := k + 1) (s := s) hxx
        have e0 : encP x = .tup [.int x.1, .int x.2] := rfl
        rw [e0] at is
        have ew : wP x = num x.1 ++ "-" ++ num x.2 := rfl
        have h6 : ¬ (60 : Int) ≤ (i : Int) := by omega
        have h7 : ¬ x.1 ≤ lastAt (fun q : Int × Int => q.2) xs i := by
          have := inc_at hI ex
          unfold lastAt
          omega
        have hz : ((xs.take i).map encP).length < sizeLine := by rw [List.length_map, List.length_take, sizeLine_eq]; omega
        have fs := f.step ex (fun _ => rfl)
        rw [e0] at fs
        refine ⟨[some (.str (textOf wP xs)), some (.loc s.len), some (.int (lastAt (fun q : Int × Int => q.2) xs i)), some (.int i), some (.str (wP x)), c], s', [some (.str (textOf wP xs)), some (.loc s.len), some (.int x.2), some (.int i), some (.str (wP x)), some (encP x)], _, by simp only [ev_var, ev_var1, ev_c, ev_vout, ev_bin, ev_bin1, ev_bin2, ev_un, ev_un1, ev_lnil, ev_lcons, ev_lcons1, ev_lcons2, ev_ldef, ev_ldef1, ev_lstar, ev_lstar1, ev_lstar1b, ev_lstar2, ev_tup, ev_tup1, ev_lst, ev_lst1, ev_lchk, ev_lchk1, ev_call, ev_call1, ev_g, ev_b, ev_b1, ev_tmp, ev_tmp1, ev_comp, ev_comp1, ev_if, ev_if1t, ev_if1f, ev_bt, ev_bt1, ev_bt2, ev_bv, ev_bv1, ev_bnot, ev_bnot1, ev_band, ev_band1t, ev_band1f, ev_bor, ev_bor1t, ev_bor1f, ev_byes, ev_eand, ev_eand1, ev_eand2t, ev_eand2f, ev_eor, ev_eor1, ev_eor2t, ev_eor2f, ev_enot, ev_enot1, ev_enot2, ev_ch, ev_ch1, ev_ch2, ev_ch3t, ev_ch3f, ev_ch4, ev_m, ev_m1, ev_m2, ev_m3, ev_jo, ev_jo1, ev_jo2, ev_fs, ev_jfn, ev_jfc, ev_jf1, ev_dct, ev_kvn, ev_kvc, ev_kv1, ev_kv2, ev_kv3, ev_dct1, ev_pn, ev_ps, ev_ps1, ev_sl, ev_sl1, ev_sl2, ev_sl3, ev_snil, ev_seq, ev_seqn, ev_seqr, ev_seqb, ev_seqc, ev_seqx, ev_sex, ev_sex1, ev_ret, ev_ret1, ev_retn, ev_sif, ev_sif1t, ev_sif1f, ev_brk, ev_cnt, ev_asg, ev_asg1, ev_gnm, ev_gnil, ev_gcons, ev_gcons1, ev_gtp, ev_gst, ev_gst1, ev_gsub, ev_gsub1, ev_gsub2, ev_gsub3, ev_par, ev_par1, ev_par3, ev_par31, ev_aug, ev_aug1, ev_aug2, ev_aug3, ev_for, ev_for1, ev_lcomp, ev_lcomp1, ev_wipn, ev_wipc, ev_iseq, ev_iseq1, ev_seqt, ev_seqf, ev_seqs, ev_seql, ev_seql1, ev_rg1, ev_rg11, ev_rg2, ev_rg21, ev_en, ev_en1, ev_en2, ev_outr, ev_outn, ev_outx, ev_ixi, ev_ixk, ev_ixl, ev_ixll, ev_ixld, ev_ixkk, ev_ix1, ev_ixt, ev_ixf, vv_oAdd, vv_oAddI, vv_oSub, vv_oLt, vv_oLe, vv_oGt, vv_oGe, vv_oEq, vv_oNe, vv_eqs, vv_nes, vv_eqns, vv_isn, vv_notn, vv_in_non, vv_in_bl, vv_in_int, vv_in_str, vv_in_tup, vv_in_frz, vv_in_loc, vv_neg, vv_tb, vv_ti, vv_tn, vv_tt, vv_tf, vv_mul, vv_div, vv_mod, vv_pow7, vv_pow8, vv_pow9, vv_pow18, vv_pow12, vv_pow6, vv_pow5, vv_pow4, vv_pow10, vv_pow16, vv_abs, vv_min, vv_max, vv_inti, vv_intb, vv_stri, vv_strs, vv_lent, vv_lenf, vv_lens, vv_htup, vv_hlen, vv_is_non_bool, vv_is_non_int, vv_is_non_str, vv_is_non_tuple, vv_is_bl_bool, vv_is_bl_int, vv_is_bl_str, vv_is_bl_tuple, vv_is_int_bool, vv_is_int_int, vv_is_int_str, vv_is_int_tuple, vv_is_str_bool, vv_is_str_int, vv_is_str_str, vv_is_str_tuple, vv_is_tup_bool, vv_is_tup_int, vv_is_tup_str, vv_is_tup_tuple, vv_is_frz_bool, vv_is_frz_int, vv_is_frz_str, vv_is_frz_tuple, vv_iss, vv_items_t, vv_items_f, vv_spl, vv_fmts, vv_fmti, vv_cats, vv_cast0, vv_cast1, vv_cast2, vv_cast3, vv_cast4, vv_cast5, vv_cast6, vv_cast7, vv_cast8, vv_cast9, vv_cast10, vv_cast11, vv_line0, vv_line1, vv_line2, vv_line3, vv_line4, vv_line5, vv_line6, vv_line7, vv_line8, vv_isl, vv_isl1, vv_lenl, vv_lenl1, vv_tupl, vv_tupl1, vv_items_l, vv_items_l1, vv_lst_f, vv_lst_l, vv_lst_l1, vv_app, vv_app1, vv_pop0, vv_pop01, vv_ins0, vv_ins01, vv_mull, vv_mull0, vv_mull1, vv_addl, vv_addl1, vv_slf, vv_slt, List.getElem?_cons_zero, List.getElem?_cons_succ, List.set_cons_zero, List.set_cons_succ, List.map_cons, List.map_nil, List.length_cons, List.length_nil, List.replicate_succ, List.replicate_zero, List.cons_append, List.nil_append, List.append_nil, Option.map_some, Option.map_none, Option.bind_some, Nat.reduceSub, Nat.reduceAdd, Nat.reduceMul, Nat.reduceLeDiff, Nat.zero_le, Int.reduceLT, Int.reduceLE, Int.reduceNeg, Int.reduceAdd, Int.reduceEq, Int.reduceMul, Int.reduceSub, eq_self, Bool.not_true, Bool.not_false, Bool.and_true, Bool.true_and, Bool.and_false, Bool.false_and, Bool.or_true, Bool.true_or, Bool.or_false, Bool.false_or, decide_true, decide_false, if_true, if_false, ite_true, ite_false, Bool.false_eq_true, and_true, true_and, and_false, false_and, not_true_eq_false, not_false_eq_true], ?_, ⟨_, _, _, by rw [lastAt_succ ex]⟩, fs⟩
        rw [ew, e0]
        simp only [rl, is, at0, at1, h6, h7, f.fd, hz, ev_var, ev_var1, ev_c, ev_vout, ev_bin, ev_bin1, ev_bin2, ev_un, ev_un1, ev_lnil, ev_lcons, ev_lcons1, ev_lcons2, ev_ldef, ev_ldef1, ev_lstar, ev_lstar1, ev_lstar1b, ev_lstar2, ev_tup, ev_tup1, ev_lst, ev_lst1, ev_lchk, ev_lchk1, ev_call, ev_call1, ev_g, ev_b, ev_b1, ev_tmp, ev_tmp1, ev_comp, ev_comp1, ev_if, ev_if1t, ev_if1f, ev_bt, ev_bt1, ev_bt2, ev_bv, ev_bv1, ev_bnot, ev_bnot1, ev_band, ev_band1t, ev_band1f, ev_bor, ev_bor1t, ev_bor1f, ev_byes, ev_eand, ev_eand1, ev_eand2t, ev_eand2f, ev_eor, ev_eor1, ev_eor2t, ev_eor2f, ev_enot, ev_enot1, ev_enot2, ev_ch, ev_ch1, ev_ch2, ev_ch3t, ev_ch3f, ev_ch4, ev_m, ev_m1, ev_m2, ev_m3, ev_jo, ev_jo1, ev_jo2, ev_fs, ev_jfn, ev_jfc, ev_jf1, ev_dct, ev_kvn, ev_kvc, ev_kv1, ev_kv2, ev_kv3, ev_dct1, ev_pn, ev_ps, ev_ps1, ev_sl, ev_sl1, ev_sl2, ev_sl3, ev_snil, ev_seq, ev_seqn, ev_seqr, ev_seqb, ev_seqc, ev_seqx, ev_sex, ev_sex1, ev_ret, ev_ret1, ev_retn, ev_sif, ev_sif1t, ev_sif1f, ev_brk, ev_cnt, ev_asg, ev_asg1, ev_gnm, ev_gnil, ev_gcons, ev_gcons1, ev_gtp, ev_gst, ev_gst1, ev_gsub, ev_gsub1, ev_gsub2, ev_gsub3, ev_par, ev_par1, ev_par3, ev_par31, ev_aug, ev_aug1, ev_aug2, ev_aug3, ev_for, ev_for1, ev_lcomp, ev_lcomp1, ev_wipn, ev_wipc, ev_iseq, ev_iseq1, ev_seqt, ev_seqf, ev_seqs, ev_seql, ev_seql1, ev_rg1, ev_rg11, ev_rg2, ev_rg21, ev_en, ev_en1, ev_en2, ev_outr, ev_outn, ev_outx, ev_ixi, ev_ixk, ev_ixl, ev_ixll, ev_ixld, ev_ixkk, ev_ix1, ev_ixt, ev_ixf, vv_oAdd, vv_oAddI, vv_oSub, vv_oLt, vv_oLe, vv_oGt, vv_oGe, vv_oEq, vv_oNe, vv_eqs, vv_nes, vv_eqns, vv_isn, vv_notn, vv_in_non, vv_in_bl, vv_in_int, vv_in_str, vv_in_tup, vv_in_frz, vv_in_loc, vv_neg, vv_tb, vv_ti, vv_tn, vv_tt, vv_tf, vv_mul, vv_div, vv_mod, vv_pow7, vv_pow8, vv_pow9, vv_pow18, vv_pow12, vv_pow6, vv_pow5, vv_pow4, vv_pow10, vv_pow16, vv_abs, vv_min, vv_max, vv_inti, vv_intb, vv_stri, vv_strs, vv_lent, vv_lenf, vv_lens, vv_htup, vv_hlen, vv_is_non_bool, vv_is_non_int, vv_is_non_str, vv_is_non_tuple, vv_is_bl_bool, vv_is_bl_int, vv_is_bl_str, vv_is_bl_tuple, vv_is_int_bool, vv_is_int_int, vv_is_int_str, vv_is_int_tuple, vv_is_str_bool, vv_is_str_int, vv_is_str_str, vv_is_str_tuple, vv_is_tup_bool, vv_is_tup_int, vv_is_tup_str, vv_is_tup_tuple, vv_is_frz_bool, vv_is_frz_int, vv_is_frz_str, vv_is_frz_tuple, vv_iss, vv_items_t, vv_items_f, vv_spl, vv_fmts, vv_fmti, vv_cats, vv_cast0, vv_cast1, vv_cast2, vv_cast3, vv_cast4, vv_cast5, vv_cast6, vv_cast7, vv_cast8, vv_cast9, vv_cast10, vv_cast11, vv_line0, vv_line1, vv_line2, vv_line3, vv_line4, vv_line5, vv_line6, vv_line7, vv_line8, vv_isl, vv_isl1, vv_lenl, vv_lenl1, vv_tupl, vv_tupl1, vv_items_l, vv_items_l1, vv_lst_f, vv_lst_l, vv_lst_l1, vv_app, vv_app1, vv_pop0, vv_pop01, vv_ins0, vv_ins01, vv_mull, vv_mull0, vv_mull1, vv_addl, vv_addl1, vv_slf, vv_slt, List.getElem?_cons_zero, List.getElem?_cons_succ, List.set_cons_zero, List.set_cons_succ, List.map_cons, List.map_nil, List.length_cons, List.length_nil, List.replicate_succ, List.replicate_zero, List.cons_append, List.nil_append, List.append_nil, Option.map_some, Option.map_none, Option.bind_some, Nat.reduceSub, Nat.reduceAdd, Nat.reduceMul, Nat.reduceLeDiff, Nat.zero_le, Int.reduceLT, Int.reduceLE, Int.reduceNeg, Int.reduceAdd, Int.reduceEq, Int.reduceMul, Int.reduceSub, eq_self, Bool.not_true, Bool.not_false, Bool.and_true, Bool.true_and, Bool.and_false, Bool.false_and, Bool.or_true, Bool.true_or, Bool.or_false, Bool.false_or, decide_true, decide_false, if_true, if_false, ite_true, ite_false, Bool.false_eq_true, and_true, true_and, and_false, false_and, not_true_eq_false, not_false_eq_true])
    ⟨⟨none, none, none, rfl⟩, f0, g2, Gro.add.trans Gro.add⟩
  rw [enum_len] at f2
  have lw : words.length = xs.length := by simp [words, strTs]
  have ff := f2.fd
  rw [lw, List.take_length] at ff
  refine run_gro pr_parse_log rfl ⟨s', ?_, f2.gr⟩ (by rw [tup_hi fun _ => rfl]; exact Nat.zero_le _)
  unfold b_parse_log
  rw [← l1] at g2 e2
  simp only [q1, e1, g2, e2, ff, ev_var, ev_var1, ev_c, ev_vout, ev_bin, ev_bin1, ev_bin2, ev_un, ev_un1, ev_lnil, ev_lcons, ev_lcons1, ev_lcons2, ev_ldef, ev_ldef1, ev_lstar, ev_lstar1, ev_lstar1b, ev_lstar2, ev_tup, ev_tup1, ev_lst, ev_lst1, ev_lchk, ev_lchk1, ev_call, ev_call1, ev_g, ev_b, ev_b1, ev_tmp, ev_tmp1, ev_comp, ev_comp1, ev_if, ev_if1t, ev_if1f, ev_bt, ev_bt1, ev_bt2, ev_bv, ev_bv1, ev_bnot, ev_bnot1, ev_band, ev_band1t, ev_band1f, ev_bor, ev_bor1t, ev_bor1f, ev_byes, ev_eand, ev_eand1, ev_eand2t, ev_eand2f, ev_eor, ev_eor1, ev_eor2t, ev_eor2f, ev_enot, ev_enot1, ev_enot2, ev_ch, ev_ch1, ev_ch2, ev_ch3t, ev_ch3f, ev_ch4, ev_m, ev_m1, ev_m2, ev_m3, ev_jo, ev_jo1, ev_jo2, ev_fs, ev_jfn, ev_jfc, ev_jf1, ev_dct, ev_kvn, ev_kvc, ev_kv1, ev_kv2, ev_kv3, ev_dct1, ev_pn, ev_ps, ev_ps1, ev_sl, ev_sl1, ev_sl2, ev_sl3, ev_snil, ev_seq, ev_seqn, ev_seqr, ev_seqb, ev_seqc, ev_seqx, ev_sex, ev_sex1, ev_ret, ev_ret1, ev_retn, ev_sif, ev_sif1t, ev_sif1f, ev_brk, ev_cnt, ev_asg, ev_asg1, ev_gnm, ev_gnil, ev_gcons, ev_gcons1, ev_gtp, ev_gst, ev_gst1, ev_gsub, ev_gsub1, ev_gsub2, ev_gsub3, ev_par, ev_par1, ev_par3, ev_par31, ev_aug, ev_aug1, ev_aug2, ev_aug3, ev_for, ev_for1, ev_lcomp, ev_lcomp1, ev_wipn, ev_wipc, ev_iseq, ev_iseq1, ev_seqt, ev_seqf, ev_seqs, ev_seql, ev_seql1, ev_rg1, ev_rg11, ev_rg2, ev_rg21, ev_en, ev_en1, ev_en2, ev_outr, ev_outn, ev_outx, ev_ixi, ev_ixk, ev_ixl, ev_ixll, ev_ixld, ev_ixkk, ev_ix1, ev_ixt, ev_ixf, vv_oAdd, vv_oAddI, vv_oSub, vv_oLt, vv_oLe, vv_oGt, vv_oGe, vv_oEq, vv_oNe, vv_eqs, vv_nes, vv_eqns, vv_isn, vv_notn, vv_in_non, vv_in_bl, vv_in_int, vv_in_str, vv_in_tup, vv_in_frz, vv_in_loc, vv_neg, vv_tb, vv_ti, vv_tn, vv_tt, vv_tf, vv_mul, vv_div, vv_mod, vv_pow7, vv_pow8, vv_pow9, vv_pow18, vv_pow12, vv_pow6, vv_pow5, vv_pow4, vv_pow10, vv_pow16, vv_abs, vv_min, vv_max, vv_inti, vv_intb, vv_stri, vv_strs, vv_lent, vv_lenf, vv_lens, vv_htup, vv_hlen, vv_is_non_bool, vv_is_non_int, vv_is_non_str, vv_is_non_tuple, vv_is_bl_bool, vv_is_bl_int, vv_is_bl_str, vv_is_bl_tuple, vv_is_int_bool, vv_is_int_int, vv_is_int_str, vv_is_int_tuple, vv_is_str_bool, vv_is_str_int, vv_is_str_str, vv_is_str_tuple, vv_is_tup_bool, vv_is_tup_int, vv_is_tup_str, vv_is_tup_tuple, vv_is_frz_bool, vv_is_frz_int, vv_is_frz_str, vv_is_frz_tuple, vv_iss, vv_items_t, vv_items_f, vv_spl, vv_fmts, vv_fmti, vv_cats, vv_cast0, vv_cast1, vv_cast2, vv_cast3, vv_cast4, vv_cast5, vv_cast6, vv_cast7, vv_cast8, vv_cast9, vv_cast10, vv_cast11, vv_line0, vv_line1, vv_line2, vv_line3, vv_line4, vv_line5, vv_line6, vv_line7, vv_line8, vv_isl, vv_isl1, vv_lenl, vv_lenl1, vv_tupl, vv_tupl1, vv_items_l, vv_items_l1, vv_lst_f, vv_lst_l, vv_lst_l1, vv_app, vv_app1, vv_pop0, vv_pop01, vv_ins0, vv_ins01, vv_mull, vv_mull0, vv_mull1, vv_addl, vv_addl1, vv_slf, vv_slt, List.getElem?_cons_zero, List.getElem?_cons_succ, List.set_cons_zero, List.set_cons_succ, List.map_cons, List.map_nil, List.length_cons, List.length_nil, List.replicate_succ, List.replicate_zero, List.cons_append, List.nil_append, List.append_nil, Option.map_some, Option.map_none, Option.bind_some, Nat.reduceSub, Nat.reduceAdd, Nat.reduceMul, Nat.reduceLeDiff, Nat.zero_le, Int.reduceLT, Int.reduceLE, Int.reduceNeg, Int.reduceAdd, Int.reduceEq, Int.reduceMul, Int.reduceSub, eq_self, Bool.not_true, Bool.not_false, Bool.and_true, Bool.true_and, Bool.and_false, Bool.false_and, Bool.or_true, Bool.true_or, Bool.or_false, Bool.false_or, decide_true, decide_false, if_true, if_false, ite_true, ite_false, Bool.false_eq_true, and_true, true_and, and_false, false_and, not_true_eq_false, not_false_eq_true]
theorem parse_motions_ok {xs : List (Int × Int × Int)} (h : ∀ x ∈ xs, okR' x) (hl : xs.length ≤ 360) (hI : Inc (fun q : Int × Int × Int => q.1) endR (-1) xs) : run pr (k + 4) "parse_motions" [.str (textOf wR xs)] s = .ok (.tup (xs.map encR)) s := by
  have hw : ∀ x ∈ xs, Wd (wR x) := fun x hx => wd_R (h x hx)
  let words := strTs (xs.map wR)
  let s1 := s.add (.lst [])
  let s2 := s1.add (.lst words)
  have e1 : run pr (k + 3) "words_of" [.str (textOf wR xs)] s1 = .ok (.loc s1.len) s2 := words_ok hw (by omega)
  have q1 : s.add (.lst []) = s1 := rfl
  have l1 : s1.len = s.len + 1 := len_add
  have g2 : s2.get (s.len + 1) = some (.lst words) := by rw [← l1]; exact get_add
  have f0 : s2.get s.len = some (.lst []) := get_add_old get_add
  let I : Nat → Fx.Env → Sto → Prop := fun i r s' => (∃ a b c, r = [some (.str (textOf wR xs)), some (.loc s.len), some (.int (lastAt endR xs i)), a, b, c]) ∧ Fnd s words encR xs i s'
  obtain ⟨r', s', e2, ⟨a, b, c, rfl⟩, f2⟩ := forL_inv (I := I) (chk := chkL (s.len + 1) words) (g := gTp 2 (gsCons (gNm 3) (gsCons (gNm 4) gsNil)))
    (b := sSeq (sAsg (eCall (run pr (k + 3)) "read_run" (lDef (lCons (eVar 4) lNil) [])) (gNm 5)) (sSeq (sIf (bOr (bNot (bT (eCall (run pr (k + 3)) "is_run" (lDef (lCons (eVar 5) lNil) [])))) (bOr (bV (eBin oLe (eBin oIx (eVar 5) (eC (.int 0))) (eVar 2))) (bV (eBin oGe (eVar 3) (eC (.int 360)))))) (fun _ _ => .bad) sNil) (sSeq (sEx (eM "list" mAppend (eVar 1) (lCons (eVar 5) lNil))) (sAsg (eCall (run pr (k + 3)) "end_of" (lDef (lCons (eVar 5) lNil) [])) (gNm 2)))))
    (ts := (enumP words).map fun p => T.tup [p.1, p.2]) (r := [some (.str (textOf wR xs)), some (.loc s.len), some (.int (-1)), none, none, none]) (s := s2)
    (fun i r s' hI => chkL_iff.mpr hI.2.wd)
    (fun i t r s' ht hIv => by
      obtain ⟨⟨a, b, c, rfl⟩, f⟩ := hIv
      obtain ⟨u, hu, rfl⟩ := enum_at ht
      have hu' : (xs.map wR)[i]?.map T.str = some u := by simpa [words, strTs] using hu
      cases ex : xs[i]? with
      | none => simp [ex] at hu'
      | some x =>
        simp [ex] at hu'
        subst hu'
        have hx : x ∈ xs := List.mem_of_getElem? ex
        have hi : i < xs.length := (List.getElem?_eq_some_iff.mp ex).1
        have hxx := h x hx
        have rl := fun s => read_run_ok (k := k) (s := s) hxx
        have is := fun s => is_run_ok (k := k) (s := s) hxx
        have eo := fun s => end_of_ok (k := k + 2) (s := s) hxx
        have e0 : encR x = .tup [.int x.1, .int x.2.1, .int x.2.2] := rfl
        rw [e0] at is rl eo
        have h6 : ¬ (360 : Int) ≤ (i : Int) := by omega
        have h7 : ¬ x.1 ≤ lastAt endR xs i := by
          have := inc_at hI ex
          unfold lastAt
          omega
        have hz : ((xs.take i).map encR).length < sizeLine := by rw [List.length_map, List.length_take, sizeLine_eq]; omega
        have fs := f.step ex (fun _ => rfl)
        rw [e0] at fs
        refine ⟨[some (.str (textOf wR xs)), some (.loc s.len), some (.int (lastAt endR xs i)), some (.int i), some (.str (wR x)), c], s', [some (.str (textOf wR xs)), some (.loc s.len), some (.int (endR x)), some (.int i), some (.str (wR x)), some (encR x)], _, by simp only [ev_var, ev_var1, ev_c, ev_vout, ev_bin, ev_bin1, ev_bin2, ev_un, ev_un1, ev_lnil, ev_lcons, ev_lcons1, ev_lcons2, ev_ldef, ev_ldef1, ev_lstar, ev_lstar1, ev_lstar1b, ev_lstar2, ev_tup, ev_tup1, ev_lst, ev_lst1, ev_lchk, ev_lchk1, ev_call, ev_call1, ev_g, ev_b, ev_b1, ev_tmp, ev_tmp1, ev_comp, ev_comp1, ev_if, ev_if1t, ev_if1f, ev_bt, ev_bt1, ev_bt2, ev_bv, ev_bv1, ev_bnot, ev_bnot1, ev_band, ev_band1t, ev_band1f, ev_bor, ev_bor1t, ev_bor1f, ev_byes, ev_eand, ev_eand1, ev_eand2t, ev_eand2f, ev_eor, ev_eor1, ev_eor2t, ev_eor2f, ev_enot, ev_enot1, ev_enot2, ev_ch, ev_ch1, ev_ch2, ev_ch3t, ev_ch3f, ev_ch4, ev_m, ev_m1, ev_m2, ev_m3, ev_jo, ev_jo1, ev_jo2, ev_fs, ev_jfn, ev_jfc, ev_jf1, ev_dct, ev_kvn, ev_kvc, ev_kv1, ev_kv2, ev_kv3, ev_dct1, ev_pn, ev_ps, ev_ps1, ev_sl, ev_sl1, ev_sl2, ev_sl3, ev_snil, ev_seq, ev_seqn, ev_seqr, ev_seqb, ev_seqc, ev_seqx, ev_sex, ev_sex1, ev_ret, ev_ret1, ev_retn, ev_sif, ev_sif1t, ev_sif1f, ev_brk, ev_cnt, ev_asg, ev_asg1, ev_gnm, ev_gnil, ev_gcons, ev_gcons1, ev_gtp, ev_gst, ev_gst1, ev_gsub, ev_gsub1, ev_gsub2, ev_gsub3, ev_par, ev_par1, ev_par3, ev_par31, ev_aug, ev_aug1, ev_aug2, ev_aug3, ev_for, ev_for1, ev_lcomp, ev_lcomp1, ev_wipn, ev_wipc, ev_iseq, ev_iseq1, ev_seqt, ev_seqf, ev_seqs, ev_seql, ev_seql1, ev_rg1, ev_rg11, ev_rg2, ev_rg21, ev_en, ev_en1, ev_en2, ev_outr, ev_outn, ev_outx, ev_ixi, ev_ixk, ev_ixl, ev_ixll, ev_ixld, ev_ixkk, ev_ix1, ev_ixt, ev_ixf, vv_oAdd, vv_oAddI, vv_oSub, vv_oLt, vv_oLe, vv_oGt, vv_oGe, vv_oEq, vv_oNe, vv_eqs, vv_nes, vv_eqns, vv_isn, vv_notn, vv_in_non, vv_in_bl, vv_in_int, vv_in_str, vv_in_tup, vv_in_frz, vv_in_loc, vv_neg, vv_tb, vv_ti, vv_tn, vv_tt, vv_tf, vv_mul, vv_div, vv_mod, vv_pow7, vv_pow8, vv_pow9, vv_pow18, vv_pow12, vv_pow6, vv_pow5, vv_pow4, vv_pow10, vv_pow16, vv_abs, vv_min, vv_max, vv_inti, vv_intb, vv_stri, vv_strs, vv_lent, vv_lenf, vv_lens, vv_htup, vv_hlen, vv_is_non_bool, vv_is_non_int, vv_is_non_str, vv_is_non_tuple, vv_is_bl_bool, vv_is_bl_int, vv_is_bl_str, vv_is_bl_tuple, vv_is_int_bool, vv_is_int_int, vv_is_int_str, vv_is_int_tuple, vv_is_str_bool, vv_is_str_int, vv_is_str_str, vv_is_str_tuple, vv_is_tup_bool, vv_is_tup_int, vv_is_tup_str, vv_is_tup_tuple, vv_is_frz_bool, vv_is_frz_int, vv_is_frz_str, vv_is_frz_tuple, vv_iss, vv_items_t, vv_items_f, vv_spl, vv_fmts, vv_fmti, vv_cats, vv_cast0, vv_cast1, vv_cast2, vv_cast3, vv_cast4, vv_cast5, vv_cast6, vv_cast7, vv_cast8, vv_cast9, vv_cast10, vv_cast11, vv_line0, vv_line1, vv_line2, vv_line3, vv_line4, vv_line5, vv_line6, vv_line7, vv_line8, vv_isl, vv_isl1, vv_lenl, vv_lenl1, vv_tupl, vv_tupl1, vv_items_l, vv_items_l1, vv_lst_f, vv_lst_l, vv_lst_l1, vv_app, vv_app1, vv_pop0, vv_pop01, vv_ins0, vv_ins01, vv_mull, vv_mull0, vv_mull1, vv_addl, vv_addl1, vv_slf, vv_slt, List.getElem?_cons_zero, List.getElem?_cons_succ, List.set_cons_zero, List.set_cons_succ, List.map_cons, List.map_nil, List.length_cons, List.length_nil, List.replicate_succ, List.replicate_zero, List.cons_append, List.nil_append, List.append_nil, Option.map_some, Option.map_none, Option.bind_some, Nat.reduceSub, Nat.reduceAdd, Nat.reduceMul, Nat.reduceLeDiff, Nat.zero_le, Int.reduceLT, Int.reduceLE, Int.reduceNeg, Int.reduceAdd, Int.reduceEq, Int.reduceMul, Int.reduceSub, eq_self, Bool.not_true, Bool.not_false, Bool.and_true, Bool.true_and, Bool.and_false, Bool.false_and, Bool.or_true, Bool.true_or, Bool.or_false, Bool.false_or, decide_true, decide_false, if_true, if_false, ite_true, ite_false, Bool.false_eq_true, and_true, true_and, and_false, false_and, not_true_eq_false, not_false_eq_true], ?_, ⟨_, _, _, by rw [lastAt_succ ex]⟩, fs⟩
        rw [e0]
        simp only [rl, is, eo, at0, at1, h6, h7, f.fd, hz, ev_var, ev_var1, ev_c, ev_vout, ev_bin, ev_bin1, ev_bin2, ev_un, ev_un1, ev_lnil, ev_lcons, ev_lcons1, ev_lcons2, ev_ldef, ev_ldef1, ev_lstar, ev_lstar1, ev_lstar1b, ev_lstar2, ev_tup, ev_tup1, ev_lst, ev_lst1, ev_lchk, ev_lchk1, ev_call, ev_call1, ev_g, ev_b, ev_b1, ev_tmp, ev_tmp1, ev_comp, ev_comp1, ev_if, ev_if1t, ev_if1f, ev_bt, ev_bt1, ev_bt2, ev_bv, ev_bv1, ev_bnot, ev_bnot1, ev_band, ev_band1t, ev_band1f, ev_bor, ev_bor1t, ev_bor1f, ev_byes, ev_eand, ev_eand1, ev_eand2t, ev_eand2f, ev_eor, ev_eor1, ev_eor2t, ev_eor2f, ev_enot, ev_enot1, ev_enot2, ev_ch, ev_ch1, ev_ch2, ev_ch3t, ev_ch3f, ev_ch4, ev_m, ev_m1, ev_m2, ev_m3, ev_jo, ev_jo1, ev_jo2, ev_fs, ev_jfn, ev_jfc, ev_jf1, ev_dct, ev_kvn, ev_kvc, ev_kv1, ev_kv2, ev_kv3, ev_dct1, ev_pn, ev_ps, ev_ps1, ev_sl, ev_sl1, ev_sl2, ev_sl3, ev_snil, ev_seq, ev_seqn, ev_seqr, ev_seqb, ev_seqc, ev_seqx, ev_sex, ev_sex1, ev_ret, ev_ret1, ev_retn, ev_sif, ev_sif1t, ev_sif1f, ev_brk, ev_cnt, ev_asg, ev_asg1, ev_gnm, ev_gnil, ev_gcons, ev_gcons1, ev_gtp, ev_gst, ev_gst1, ev_gsub, ev_gsub1, ev_gsub2, ev_gsub3, ev_par, ev_par1, ev_par3, ev_par31, ev_aug, ev_aug1, ev_aug2, ev_aug3, ev_for, ev_for1, ev_lcomp, ev_lcomp1, ev_wipn, ev_wipc, ev_iseq, ev_iseq1, ev_seqt, ev_seqf, ev_seqs, ev_seql, ev_seql1, ev_rg1, ev_rg11, ev_rg2, ev_rg21, ev_en, ev_en1, ev_en2, ev_outr, ev_outn, ev_outx, ev_ixi, ev_ixk, ev_ixl, ev_ixll, ev_ixld, ev_ixkk, ev_ix1, ev_ixt, ev_ixf, vv_oAdd, vv_oAddI, vv_oSub, vv_oLt, vv_oLe, vv_oGt, vv_oGe, vv_oEq, vv_oNe, vv_eqs, vv_nes, vv_eqns, vv_isn, vv_notn, vv_in_non, vv_in_bl, vv_in_int, vv_in_str, vv_in_tup, vv_in_frz, vv_in_loc, vv_neg, vv_tb, vv_ti, vv_tn, vv_tt, vv_tf, vv_mul, vv_div, vv_mod, vv_pow7, vv_pow8, vv_pow9, vv_pow18, vv_pow12, vv_pow6, vv_pow5, vv_pow4, vv_pow10, vv_pow16, vv_abs, vv_min, vv_max, vv_inti, vv_intb, vv_stri, vv_strs, vv_lent, vv_lenf, vv_lens, vv_htup, vv_hlen, vv_is_non_bool, vv_is_non_int, vv_is_non_str, vv_is_non_tuple, vv_is_bl_bool, vv_is_bl_int, vv_is_bl_str, vv_is_bl_tuple, vv_is_int_bool, vv_is_int_int, vv_is_int_str, vv_is_int_tuple, vv_is_str_bool, vv_is_str_int, vv_is_str_str, vv_is_str_tuple, vv_is_tup_bool, vv_is_tup_int, vv_is_tup_str, vv_is_tup_tuple, vv_is_frz_bool, vv_is_frz_int, vv_is_frz_str, vv_is_frz_tuple, vv_iss, vv_items_t, vv_items_f, vv_spl, vv_fmts, vv_fmti, vv_cats, vv_cast0, vv_cast1, vv_cast2, vv_cast3, vv_cast4, vv_cast5, vv_cast6, vv_cast7, vv_cast8, vv_cast9, vv_cast10, vv_cast11, vv_line0, vv_line1, vv_line2, vv_line3, vv_line4, vv_line5, vv_line6, vv_line7, vv_line8, vv_isl, vv_isl1, vv_lenl, vv_lenl1, vv_tupl, vv_tupl1, vv_items_l, vv_items_l1, vv_lst_f, vv_lst_l, vv_lst_l1, vv_app, vv_app1, vv_pop0, vv_pop01, vv_ins0, vv_ins01, vv_mull, vv_mull0, vv_mull1, vv_addl, vv_addl1, vv_slf, vv_slt, List.getElem?_cons_zero, List.getElem?_cons_succ, List.set_cons_zero, List.set_cons_succ, List.map_cons, List.map_nil, List.length_cons, List.length_nil, List.replicate_succ, List.replicate_zero, List.cons_append, List.nil_append, List.append_nil, Option.map_some, Option.map_none, Option.bind_some, Nat.reduceSub, Nat.reduceAdd, Nat.reduceMul, Nat.reduceLeDiff, Nat.zero_le, Int.reduceLT, Int.reduceLE, Int.reduceNeg, Int.reduceAdd, Int.reduceEq, Int.reduceMul, Int.reduceSub, eq_self, Bool.not_true, Bool.not_false, Bool.and_true, Bool.true_and, Bool.and_false, Bool.false_and, Bool.or_true, Bool.true_or, Bool.or_false, Bool.false_or, decide_true, decide_false, if_true, if_false, ite_true, ite_false, Bool.false_eq_true, and_true, true_and, and_false, false_and, not_true_eq_false, not_false_eq_true])
    ⟨⟨none, none, none, rfl⟩, f0, g2, Gro.add.trans Gro.add⟩
  rw [enum_len] at f2
  have lw : words.length = xs.length := by simp [words, strTs]
  have ff := f2.fd
  rw [lw, List.take_length] at ff
  refine run_gro pr_parse_motions rfl ⟨s', ?_, f2.gr⟩ (by rw [tup_hi fun _ => rfl]; exact Nat.zero_le _)
  unfold b_parse_motions
  rw [← l1] at g2 e2
  simp only [q1, e1, g2, e2, ff, ev_var, ev_var1, ev_c, ev_vout, ev_bin, ev_bin1, ev_bin2, ev_un, ev_un1, ev_lnil, ev_lcons, ev_lcons1, ev_lcons2, ev_ldef, ev_ldef1, ev_lstar, ev_lstar1, ev_lstar1b, ev_lstar2, ev_tup, ev_tup1, ev_lst, ev_lst1, ev_lchk, ev_lchk1, ev_call, ev_call1, ev_g, ev_b, ev_b1, ev_tmp, ev_tmp1, ev_comp, ev_comp1, ev_if, ev_if1t, ev_if1f, ev_bt, ev_bt1, ev_bt2, ev_bv, ev_bv1, ev_bnot, ev_bnot1, ev_band, ev_band1t, ev_band1f, ev_bor, ev_bor1t, ev_bor1f, ev_byes, ev_eand, ev_eand1, ev_eand2t, ev_eand2f, ev_eor, ev_eor1, ev_eor2t, ev_eor2f, ev_enot, ev_enot1, ev_enot2, ev_ch, ev_ch1, ev_ch2, ev_ch3t, ev_ch3f, ev_ch4, ev_m, ev_m1, ev_m2, ev_m3, ev_jo, ev_jo1, ev_jo2, ev_fs, ev_jfn, ev_jfc, ev_jf1, ev_dct, ev_kvn, ev_kvc, ev_kv1, ev_kv2, ev_kv3, ev_dct1, ev_pn, ev_ps, ev_ps1, ev_sl, ev_sl1, ev_sl2, ev_sl3, ev_snil, ev_seq, ev_seqn, ev_seqr, ev_seqb, ev_seqc, ev_seqx, ev_sex, ev_sex1, ev_ret, ev_ret1, ev_retn, ev_sif, ev_sif1t, ev_sif1f, ev_brk, ev_cnt, ev_asg, ev_asg1, ev_gnm, ev_gnil, ev_gcons, ev_gcons1, ev_gtp, ev_gst, ev_gst1, ev_gsub, ev_gsub1, ev_gsub2, ev_gsub3, ev_par, ev_par1, ev_par3, ev_par31, ev_aug, ev_aug1, ev_aug2, ev_aug3, ev_for, ev_for1, ev_lcomp, ev_lcomp1, ev_wipn, ev_wipc, ev_iseq, ev_iseq1, ev_seqt, ev_seqf, ev_seqs, ev_seql, ev_seql1, ev_rg1, ev_rg11, ev_rg2, ev_rg21, ev_en, ev_en1, ev_en2, ev_outr, ev_outn, ev_outx, ev_ixi, ev_ixk, ev_ixl, ev_ixll, ev_ixld, ev_ixkk, ev_ix1, ev_ixt, ev_ixf, vv_oAdd, vv_oAddI, vv_oSub, vv_oLt, vv_oLe, vv_oGt, vv_oGe, vv_oEq, vv_oNe, vv_eqs, vv_nes, vv_eqns, vv_isn, vv_notn, vv_in_non, vv_in_bl, vv_in_int, vv_in_str, vv_in_tup, vv_in_frz, vv_in_loc, vv_neg, vv_tb, vv_ti, vv_tn, vv_tt, vv_tf, vv_mul, vv_div, vv_mod, vv_pow7, vv_pow8, vv_pow9, vv_pow18, vv_pow12, vv_pow6, vv_pow5, vv_pow4, vv_pow10, vv_pow16, vv_abs, vv_min, vv_max, vv_inti, vv_intb, vv_stri, vv_strs, vv_lent, vv_lenf, vv_lens, vv_htup, vv_hlen, vv_is_non_bool, vv_is_non_int, vv_is_non_str, vv_is_non_tuple, vv_is_bl_bool, vv_is_bl_int, vv_is_bl_str, vv_is_bl_tuple, vv_is_int_bool, vv_is_int_int, vv_is_int_str, vv_is_int_tuple, vv_is_str_bool, vv_is_str_int, vv_is_str_str, vv_is_str_tuple, vv_is_tup_bool, vv_is_tup_int, vv_is_tup_str, vv_is_tup_tuple, vv_is_frz_bool, vv_is_frz_int, vv_is_frz_str, vv_is_frz_tuple, vv_iss, vv_items_t, vv_items_f, vv_spl, vv_fmts, vv_fmti, vv_cats, vv_cast0, vv_cast1, vv_cast2, vv_cast3, vv_cast4, vv_cast5, vv_cast6, vv_cast7, vv_cast8, vv_cast9, vv_cast10, vv_cast11, vv_line0, vv_line1, vv_line2, vv_line3, vv_line4, vv_line5, vv_line6, vv_line7, vv_line8, vv_isl, vv_isl1, vv_lenl, vv_lenl1, vv_tupl, vv_tupl1, vv_items_l, vv_items_l1, vv_lst_f, vv_lst_l, vv_lst_l1, vv_app, vv_app1, vv_pop0, vv_pop01, vv_ins0, vv_ins01, vv_mull, vv_mull0, vv_mull1, vv_addl, vv_addl1, vv_slf, vv_slt, List.getElem?_cons_zero, List.getElem?_cons_succ, List.set_cons_zero, List.set_cons_succ, List.map_cons, List.map_nil, List.length_cons, List.length_nil, List.replicate_succ, List.replicate_zero, List.cons_append, List.nil_append, List.append_nil, Option.map_some, Option.map_none, Option.bind_some, Nat.reduceSub, Nat.reduceAdd, Nat.reduceMul, Nat.reduceLeDiff, Nat.zero_le, Int.reduceLT, Int.reduceLE, Int.reduceNeg, Int.reduceAdd, Int.reduceEq, Int.reduceMul, Int.reduceSub, eq_self, Bool.not_true, Bool.not_false, Bool.and_true, Bool.true_and, Bool.and_false, Bool.false_and, Bool.or_true, Bool.true_or, Bool.or_false, Bool.false_or, decide_true, decide_false, if_true, if_false, ite_true, ite_false, Bool.false_eq_true, and_true, true_and, and_false, false_and, not_true_eq_false, not_false_eq_true]
end
end K71

set_option maxRecDepth 100000
set_option maxHeartbeats 4000000
namespace K71
open PySem PySem.Spec PyProof.Rows L2 Fx
section
variable {d n k : Nat} {s : Sto} {α : Type} {w : α → Str}
theorem join_small {ps : List Str} (h : ∀ p ∈ ps, p.length ≤ 40) (hl : ps.length ≤ 400) : (ps.map (·.length)).sum + ps.length * (" " : Str).length ≤ 16777216 := by
  have e1 : (" " : Str).length = 1 := by decide
  have s1 : (ps.map (·.length)).sum ≤ ps.length * 40 := sum_le h
  rw [e1]; omega
theorem joinT_at {ps : List Str} (h : ∀ p ∈ ps, p.length ≤ 40) (hl : ps.length ≤ 400) : joinT " " (strTs ps) s = some (.str (Txt.join " " ps), s) := by
  unfold joinT strTs
  have e := strs_map (f := fun z : Str => z) ps
  simp only [List.map_id'] at e
  rw [show (ps.map T.str) = ps.map fun z => T.str z from rfl, e]
  exact if_pos (join_small h hl)
theorem join_at {l : Nat} {ps : List Str} (g : s.get l = some (.lst (strTs ps))) (h : ∀ p ∈ ps, p.length ≤ 40) (hl : ps.length ≤ 400) : mJoin (.str " ") [.loc l] s = some (.str (Txt.join " " ps), s) := by
  unfold mJoin
  simp only [vv_items_l, g, vv_items_l1, joinT_at h hl]
theorem text_pos {xs : List α} (h : ∀ x ∈ xs, Wd (w x)) (hne : xs ≠ []) : (Txt.join " " (xs.map w)).length ≠ 0 := by
  obtain ⟨x, hx⟩ := List.exists_mem_of_ne_nil xs hne
  obtain ⟨c, hc, hlt⟩ := (h x hx).nn
  have m : c ∈ TL.tl (Txt.join " " (xs.map w)) := by
    rw [TL.join_eq, TL.tl_join]
    exact mem_joinL (List.mem_map_of_mem (List.mem_map_of_mem hx)) hc
  rw [TL.len_tl]
  exact Nat.ne_of_gt (List.length_pos_of_mem m)
theorem listed_ok {l : Nat} {xs : List α} (g : s.get l = some (.lst (strTs (xs.map w)))) (h : ∀ x ∈ xs, Wd (w x)) (hl : xs.length ≤ 400) : run pr (k + 1) "listed" [.loc l] s = .ok (.str (textOf w xs)) s := by
  have j := join_at g (fun p hp => by obtain ⟨x, hx, rfl⟩ := List.mem_map.mp hp; exact (h x hx).ln) (by rw [List.length_map]; exact hl)
  refine run_pure pr_listed rfl ?_
  unfold b_listed
  have tz : ∀ z : Str, z.length ≤ 20000 → tru (.str z) s = some (decide (z.length ≠ 0)) := fun z hz => if_pos (by rw [sizeLine_eq]; omega)
  by_cases he : xs = []
  · subst he
    simp only [List.map_nil] at j
    have t1 := tz (Txt.join " " []) (by decide)
    have q : decide ((Txt.join " " []).length ≠ 0) = false := by rfl
    rw [q] at t1
    simp only [j, t1, textOf, List.isEmpty_nil, ev_var, ev_var1, ev_c, ev_vout, ev_bin, ev_bin1, ev_bin2, ev_un, ev_un1, ev_lnil, ev_lcons, ev_lcons1, ev_lcons2, ev_ldef, ev_ldef1, ev_lstar, ev_lstar1, ev_lstar1b, ev_lstar2, ev_tup, ev_tup1, ev_lst, ev_lst1, ev_lchk, ev_lchk1, ev_call, ev_call1, ev_g, ev_b, ev_b1, ev_tmp, ev_tmp1, ev_comp, ev_comp1, ev_if, ev_if1t, ev_if1f, ev_bt, ev_bt1, ev_bt2, ev_bv, ev_bv1, ev_bnot, ev_bnot1, ev_band, ev_band1t, ev_band1f, ev_bor, ev_bor1t, ev_bor1f, ev_byes, ev_eand, ev_eand1, ev_eand2t, ev_eand2f, ev_eor, ev_eor1, ev_eor2t, ev_eor2f, ev_enot, ev_enot1, ev_enot2, ev_ch, ev_ch1, ev_ch2, ev_ch3t, ev_ch3f, ev_ch4, ev_m, ev_m1, ev_m2, ev_m3, ev_jo, ev_jo1, ev_jo2, ev_fs, ev_jfn, ev_jfc, ev_jf1, ev_dct, ev_kvn, ev_kvc, ev_kv1, ev_kv2, ev_kv3, ev_dct1, ev_pn, ev_ps, ev_ps1, ev_sl, ev_sl1, ev_sl2, ev_sl3, ev_snil, ev_seq, ev_seqn, ev_seqr, ev_seqb, ev_seqc, ev_seqx, ev_sex, ev_sex1, ev_ret, ev_ret1, ev_retn, ev_sif, ev_sif1t, ev_sif1f, ev_brk, ev_cnt, ev_asg, ev_asg1, ev_gnm, ev_gnil, ev_gcons, ev_gcons1, ev_gtp, ev_gst, ev_gst1, ev_gsub, ev_gsub1, ev_gsub2, ev_gsub3, ev_par, ev_par1, ev_par3, ev_par31, ev_aug, ev_aug1, ev_aug2, ev_aug3, ev_for, ev_for1, ev_lcomp, ev_lcomp1, ev_wipn, ev_wipc, ev_iseq, ev_iseq1, ev_seqt, ev_seqf, ev_seqs, ev_seql, ev_seql1, ev_rg1, ev_rg11, ev_rg2, ev_rg21, ev_en, ev_en1, ev_en2, ev_outr, ev_outn, ev_outx, ev_ixi, ev_ixk, ev_ixl, ev_ixll, ev_ixld, ev_ixkk, ev_ix1, ev_ixt, ev_ixf, vv_oAdd, vv_oAddI, vv_oSub, vv_oLt, vv_oLe, vv_oGt, vv_oGe, vv_oEq, vv_oNe, vv_eqs, vv_nes, vv_eqns, vv_isn, vv_notn, vv_in_non, vv_in_bl, vv_in_int, vv_in_str, vv_in_tup, vv_in_frz, vv_in_loc, vv_neg, vv_tb, vv_ti, vv_tn, vv_tt, vv_tf, vv_mul, vv_div, vv_mod, vv_pow7, vv_pow8, vv_pow9, vv_pow18, vv_pow12, vv_pow6, vv_pow5, vv_pow4, vv_pow10, vv_pow16, vv_abs, vv_min, vv_max, vv_inti, vv_intb, vv_stri, vv_strs, vv_lent, vv_lenf, vv_lens, vv_htup, vv_hlen, vv_is_non_bool, vv_is_non_int, vv_is_non_str, vv_is_non_tuple, vv_is_bl_bool, vv_is_bl_int, vv_is_bl_str, vv_is_bl_tuple, vv_is_int_bool, vv_is_int_int, vv_is_int_str, vv_is_int_tuple, vv_is_str_bool, vv_is_str_int, vv_is_str_str, vv_is_str_tuple, vv_is_tup_bool, vv_is_tup_int, vv_is_tup_str, vv_is_tup_tuple, vv_is_frz_bool, vv_is_frz_int, vv_is_frz_str, vv_is_frz_tuple, vv_iss, vv_items_t, vv_items_f, vv_spl, vv_fmts, vv_fmti, vv_cats, vv_cast0, vv_cast1, vv_cast2, vv_cast3, vv_cast4, vv_cast5, vv_cast6, vv_cast7, vv_cast8, vv_cast9, vv_cast10, vv_cast11, vv_line0, vv_line1, vv_line2, vv_line3, vv_line4, vv_line5, vv_line6, vv_line7, vv_line8, vv_isl, vv_isl1, vv_lenl, vv_lenl1, vv_tupl, vv_tupl1, vv_items_l, vv_items_l1, vv_lst_f, vv_lst_l, vv_lst_l1, vv_app, vv_app1, vv_pop0, vv_pop01, vv_ins0, vv_ins01, vv_mull, vv_mull0, vv_mull1, vv_addl, vv_addl1, vv_slf, vv_slt, List.getElem?_cons_zero, List.getElem?_cons_succ, List.set_cons_zero, List.set_cons_succ, List.map_cons, List.map_nil, List.length_cons, List.length_nil, List.replicate_succ, List.replicate_zero, List.cons_append, List.nil_append, List.append_nil, Option.map_some, Option.map_none, Option.bind_some, Nat.reduceSub, Nat.reduceAdd, Nat.reduceMul, Nat.reduceLeDiff, Nat.zero_le, Int.reduceLT, Int.reduceLE, Int.reduceNeg, Int.reduceAdd, Int.reduceEq, Int.reduceMul, Int.reduceSub, eq_self, Bool.not_true, Bool.not_false, Bool.and_true, Bool.true_and, Bool.and_false, Bool.false_and, Bool.or_true, Bool.true_or, Bool.or_false, Bool.false_or, decide_true, decide_false, if_true, if_false, ite_true, ite_false, Bool.false_eq_true, and_true, true_and, and_false, false_and, not_true_eq_false, not_false_eq_true]
  · have e : textOf w xs = Txt.join " " (xs.map w) := by
      unfold textOf
      rw [if_neg]
      cases xs with
      | nil => exact absurd rfl he
      | cons a r => simp
    have tx := tx_of h hl
    rw [e] at tx ⊢
    have t1 := tz (Txt.join " " (xs.map w)) (by have := tx.ln; omega)
    rw [decide_eq_true (text_pos h he)] at t1
    simp only [j, t1, ev_var, ev_var1, ev_c, ev_vout, ev_bin, ev_bin1, ev_bin2, ev_un, ev_un1, ev_lnil, ev_lcons, ev_lcons1, ev_lcons2, ev_ldef, ev_ldef1, ev_lstar, ev_lstar1, ev_lstar1b, ev_lstar2, ev_tup, ev_tup1, ev_lst, ev_lst1, ev_lchk, ev_lchk1, ev_call, ev_call1, ev_g, ev_b, ev_b1, ev_tmp, ev_tmp1, ev_comp, ev_comp1, ev_if, ev_if1t, ev_if1f, ev_bt, ev_bt1, ev_bt2, ev_bv, ev_bv1, ev_bnot, ev_bnot1, ev_band, ev_band1t, ev_band1f, ev_bor, ev_bor1t, ev_bor1f, ev_byes, ev_eand, ev_eand1, ev_eand2t, ev_eand2f, ev_eor, ev_eor1, ev_eor2t, ev_eor2f, ev_enot, ev_enot1, ev_enot2, ev_ch, ev_ch1, ev_ch2, ev_ch3t, ev_ch3f, ev_ch4, ev_m, ev_m1, ev_m2, ev_m3, ev_jo, ev_jo1, ev_jo2, ev_fs, ev_jfn, ev_jfc, ev_jf1, ev_dct, ev_kvn, ev_kvc, ev_kv1, ev_kv2, ev_kv3, ev_dct1, ev_pn, ev_ps, ev_ps1, ev_sl, ev_sl1, ev_sl2, ev_sl3, ev_snil, ev_seq, ev_seqn, ev_seqr, ev_seqb, ev_seqc, ev_seqx, ev_sex, ev_sex1, ev_ret, ev_ret1, ev_retn, ev_sif, ev_sif1t, ev_sif1f, ev_brk, ev_cnt, ev_asg, ev_asg1, ev_gnm, ev_gnil, ev_gcons, ev_gcons1, ev_gtp, ev_gst, ev_gst1, ev_gsub, ev_gsub1, ev_gsub2, ev_gsub3, ev_par, ev_par1, ev_par3, ev_par31, ev_aug, ev_aug1, ev_aug2, ev_aug3, ev_for, ev_for1, ev_lcomp, ev_lcomp1, ev_wipn, ev_wipc, ev_iseq, ev_iseq1, ev_seqt, ev_seqf, ev_seqs, ev_seql, ev_seql1, ev_rg1, ev_rg11, ev_rg2, ev_rg21, ev_en, ev_en1, ev_en2, ev_outr, ev_outn, ev_outx, ev_ixi, ev_ixk, ev_ixl, ev_ixll, ev_ixld, ev_ixkk, ev_ix1, ev_ixt, ev_ixf, vv_oAdd, vv_oAddI, vv_oSub, vv_oLt, vv_oLe, vv_oGt, vv_oGe, vv_oEq, vv_oNe, vv_eqs, vv_nes, vv_eqns, vv_isn, vv_notn, vv_in_non, vv_in_bl, vv_in_int, vv_in_str, vv_in_tup, vv_in_frz, vv_in_loc, vv_neg, vv_tb, vv_ti, vv_tn, vv_tt, vv_tf, vv_mul, vv_div, vv_mod, vv_pow7, vv_pow8, vv_pow9, vv_pow18, vv_pow12, vv_pow6, vv_pow5, vv_pow4, vv_pow10, vv_pow16, vv_abs, vv_min, vv_max, vv_inti, vv_intb, vv_stri, vv_strs, vv_lent, vv_lenf, vv_lens, vv_htup, vv_hlen, vv_is_non_bool, vv_is_non_int, vv_is_non_str, vv_is_non_tuple, vv_is_bl_bool, vv_is_bl_int, vv_is_bl_str, vv_is_bl_tuple, vv_is_int_bool, vv_is_int_int, vv_is_int_str, vv_is_int_tuple, vv_is_str_bool, vv_is_str_int, vv_is_str_str, vv_is_str_tuple, vv_is_tup_bool, vv_is_tup_int, vv_is_tup_str, vv_is_tup_tuple, vv_is_frz_bool, vv_is_frz_int, vv_is_frz_str, vv_is_frz_tuple, vv_iss, vv_items_t, vv_items_f, vv_spl, vv_fmts, vv_fmti, vv_cats, vv_cast0, vv_cast1, vv_cast2, vv_cast3, vv_cast4, vv_cast5, vv_cast6, vv_cast7, vv_cast8, vv_cast9, vv_cast10, vv_cast11, vv_line0, vv_line1, vv_line2, vv_line3, vv_line4, vv_line5, vv_line6, vv_line7, vv_line8, vv_isl, vv_isl1, vv_lenl, vv_lenl1, vv_tupl, vv_tupl1, vv_items_l, vv_items_l1, vv_lst_f, vv_lst_l, vv_lst_l1, vv_app, vv_app1, vv_pop0, vv_pop01, vv_ins0, vv_ins01, vv_mull, vv_mull0, vv_mull1, vv_addl, vv_addl1, vv_slf, vv_slt, List.getElem?_cons_zero, List.getElem?_cons_succ, List.set_cons_zero, List.set_cons_succ, List.map_cons, List.map_nil, List.length_cons, List.length_nil, List.replicate_succ, List.replicate_zero, List.cons_append, List.nil_append, List.append_nil, Option.map_some, Option.map_none, Option.bind_some, Nat.reduceSub, Nat.reduceAdd, Nat.reduceMul, Nat.reduceLeDiff, Nat.zero_le, Int.reduceLT, Int.reduceLE, Int.reduceNeg, Int.reduceAdd, Int.reduceEq, Int.reduceMul, Int.reduceSub, eq_self, Bool.not_true, Bool.not_false, Bool.and_true, Bool.true_and, Bool.and_false, Bool.false_and, Bool.or_true, Bool.true_or, Bool.or_false, Bool.false_or, decide_true, decide_false, if_true, if_false, ite_true, ite_false, Bool.false_eq_true, and_true, true_and, and_false, false_and, not_true_eq_false, not_false_eq_true]
theorem empty_app (x : Str) : Str.empty ++ x = x := by
  apply TL.ext_tl
  rw [tl_app]; rfl
theorem lchk_len {z : Str} (h : z.length ≤ 200) : z.length ≤ sizeLine := by rw [sizeLine_eq]; omega
theorem gc_listed {xs : List α} (h : ∀ x ∈ xs, Wd (w x)) (hl : xs.length ≤ 400) : gcR s.len s.kp (run pr (k + 1) "listed" [.loc s.len] (s.add (.lst (strTs (xs.map w))))) = .ok (.str (textOf w xs)) s := by
  rw [listed_ok get_add h hl]
  exact gc_gro Gro.add (Nat.zero_le _)
theorem okNs {i : Int} (h : 0 ≤ i) (h2 : i < 10000000000) : okN i = true := okN_small (by omega) (by omega)
theorem lamps_text_ok {xs : List (Str × Int)} (h : ∀ x ∈ xs, okL x) (hl : xs.length ≤ 400) : run pr (k + 2) "lamps_text" [.tup (xs.map encL)] s = .ok (.str (textOf wL xs)) s := by
  have hw : ∀ x ∈ xs, Wd (wL x) := fun x hx => wd_L (h x hx)
  refine run_pure pr_lamps_text rfl ?_
  unfold b_lamps_text
  have c1 : compL chkT (gTp 2 (gsCons (gNm 1) (gsCons (gNm 2) gsNil))) bYes (eFs [eUn fmtT (eVar 1), eC (.str ":"), eUn fmtT (eVar 2)]) [some (.tup (xs.map encL)), none, none] (xs.map encL) [] s = .ok ([] ++ xs.map fun x => T.str (wL x)) s :=
    compL_map rfl xs [] (fun x hx => ⟨[some (.tup (xs.map encL)), some (.str x.1), some (.int x.2)], by simp only [encL, ev_var, ev_var1, ev_c, ev_vout, ev_bin, ev_bin1, ev_bin2, ev_un, ev_un1, ev_lnil, ev_lcons, ev_lcons1, ev_lcons2, ev_ldef, ev_ldef1, ev_lstar, ev_lstar1, ev_lstar1b, ev_lstar2, ev_tup, ev_tup1, ev_lst, ev_lst1, ev_lchk, ev_lchk1, ev_call, ev_call1, ev_g, ev_b, ev_b1, ev_tmp, ev_tmp1, ev_comp, ev_comp1, ev_if, ev_if1t, ev_if1f, ev_bt, ev_bt1, ev_bt2, ev_bv, ev_bv1, ev_bnot, ev_bnot1, ev_band, ev_band1t, ev_band1f, ev_bor, ev_bor1t, ev_bor1f, ev_byes, ev_eand, ev_eand1, ev_eand2t, ev_eand2f, ev_eor, ev_eor1, ev_eor2t, ev_eor2f, ev_enot, ev_enot1, ev_enot2, ev_ch, ev_ch1, ev_ch2, ev_ch3t, ev_ch3f, ev_ch4, ev_m, ev_m1, ev_m2, ev_m3, ev_jo, ev_jo1, ev_jo2, ev_fs, ev_jfn, ev_jfc, ev_jf1, ev_dct, ev_kvn, ev_kvc, ev_kv1, ev_kv2, ev_kv3, ev_dct1, ev_pn, ev_ps, ev_ps1, ev_sl, ev_sl1, ev_sl2, ev_sl3, ev_snil, ev_seq, ev_seqn, ev_seqr, ev_seqb, ev_seqc, ev_seqx, ev_sex, ev_sex1, ev_ret, ev_ret1, ev_retn, ev_sif, ev_sif1t, ev_sif1f, ev_brk, ev_cnt, ev_asg, ev_asg1, ev_gnm, ev_gnil, ev_gcons, ev_gcons1, ev_gtp, ev_gst, ev_gst1, ev_gsub, ev_gsub1, ev_gsub2, ev_gsub3, ev_par, ev_par1, ev_par3, ev_par31, ev_aug, ev_aug1, ev_aug2, ev_aug3, ev_for, ev_for1, ev_lcomp, ev_lcomp1, ev_wipn, ev_wipc, ev_iseq, ev_iseq1, ev_seqt, ev_seqf, ev_seqs, ev_seql, ev_seql1, ev_rg1, ev_rg11, ev_rg2, ev_rg21, ev_en, ev_en1, ev_en2, ev_outr, ev_outn, ev_outx, ev_ixi, ev_ixk, ev_ixl, ev_ixll, ev_ixld, ev_ixkk, ev_ix1, ev_ixt, ev_ixf, vv_oAdd, vv_oAddI, vv_oSub, vv_oLt, vv_oLe, vv_oGt, vv_oGe, vv_oEq, vv_oNe, vv_eqs, vv_nes, vv_eqns, vv_isn, vv_notn, vv_in_non, vv_in_bl, vv_in_int, vv_in_str, vv_in_tup, vv_in_frz, vv_in_loc, vv_neg, vv_tb, vv_ti, vv_tn, vv_tt, vv_tf, vv_mul, vv_div, vv_mod, vv_pow7, vv_pow8, vv_pow9, vv_pow18, vv_pow12, vv_pow6, vv_pow5, vv_pow4, vv_pow10, vv_pow16, vv_abs, vv_min, vv_max, vv_inti, vv_intb, vv_stri, vv_strs, vv_lent, vv_lenf, vv_lens, vv_htup, vv_hlen, vv_is_non_bool, vv_is_non_int, vv_is_non_str, vv_is_non_tuple, vv_is_bl_bool, vv_is_bl_int, vv_is_bl_str, vv_is_bl_tuple, vv_is_int_bool, vv_is_int_int, vv_is_int_str, vv_is_int_tuple, vv_is_str_bool, vv_is_str_int, vv_is_str_str, vv_is_str_tuple, vv_is_tup_bool, vv_is_tup_int, vv_is_tup_str, vv_is_tup_tuple, vv_is_frz_bool, vv_is_frz_int, vv_is_frz_str, vv_is_frz_tuple, vv_iss, vv_items_t, vv_items_f, vv_spl, vv_fmts, vv_fmti, vv_cats, vv_cast0, vv_cast1, vv_cast2, vv_cast3, vv_cast4, vv_cast5, vv_cast6, vv_cast7, vv_cast8, vv_cast9, vv_cast10, vv_cast11, vv_line0, vv_line1, vv_line2, vv_line3, vv_line4, vv_line5, vv_line6, vv_line7, vv_line8, vv_isl, vv_isl1, vv_lenl, vv_lenl1, vv_tupl, vv_tupl1, vv_items_l, vv_items_l1, vv_lst_f, vv_lst_l, vv_lst_l1, vv_app, vv_app1, vv_pop0, vv_pop01, vv_ins0, vv_ins01, vv_mull, vv_mull0, vv_mull1, vv_addl, vv_addl1, vv_slf, vv_slt, List.getElem?_cons_zero, List.getElem?_cons_succ, List.set_cons_zero, List.set_cons_succ, List.map_cons, List.map_nil, List.length_cons, List.length_nil, List.replicate_succ, List.replicate_zero, List.cons_append, List.nil_append, List.append_nil, Option.map_some, Option.map_none, Option.bind_some, Nat.reduceSub, Nat.reduceAdd, Nat.reduceMul, Nat.reduceLeDiff, Nat.zero_le, Int.reduceLT, Int.reduceLE, Int.reduceNeg, Int.reduceAdd, Int.reduceEq, Int.reduceMul, Int.reduceSub, eq_self, Bool.not_true, Bool.not_false, Bool.and_true, Bool.true_and, Bool.and_false, Bool.false_and, Bool.or_true, Bool.true_or, Bool.or_false, Bool.false_or, decide_true, decide_false, if_true, if_false, ite_true, ite_false, Bool.false_eq_true, and_true, true_and, and_false, false_and, not_true_eq_false, not_false_eq_true], by
      have ho := h x hx
      have hk := kind_len ho.1
      have hn := num_len (i := x.2) (by have := ho.2.1; omega) (by have := ho.2.2; omega)
      have hi := okNs (i := x.2) (by have := ho.2.1; omega) (by have := ho.2.2; omega)
      have z1 := lchk_len (z := x.1) (by omega)
      have z2 : (x.1 ++ ":").length ≤ sizeLine := lchk_len (by rw [len_app, one_lens.1]; omega)
      have z3 : (x.1 ++ ":" ++ num x.2).length ≤ sizeLine := lchk_len (by rw [len_app, len_app, one_lens.1]; omega)
      simp only [hi, z1, z2, z3, empty_app, ev_var, ev_var1, ev_c, ev_vout, ev_bin, ev_bin1, ev_bin2, ev_un, ev_un1, ev_lnil, ev_lcons, ev_lcons1, ev_lcons2, ev_ldef, ev_ldef1, ev_lstar, ev_lstar1, ev_lstar1b, ev_lstar2, ev_tup, ev_tup1, ev_lst, ev_lst1, ev_lchk, ev_lchk1, ev_call, ev_call1, ev_g, ev_b, ev_b1, ev_tmp, ev_tmp1, ev_comp, ev_comp1, ev_if, ev_if1t, ev_if1f, ev_bt, ev_bt1, ev_bt2, ev_bv, ev_bv1, ev_bnot, ev_bnot1, ev_band, ev_band1t, ev_band1f, ev_bor, ev_bor1t, ev_bor1f, ev_byes, ev_eand, ev_eand1, ev_eand2t, ev_eand2f, ev_eor, ev_eor1, ev_eor2t, ev_eor2f, ev_enot, ev_enot1, ev_enot2, ev_ch, ev_ch1, ev_ch2, ev_ch3t, ev_ch3f, ev_ch4, ev_m, ev_m1, ev_m2, ev_m3, ev_jo, ev_jo1, ev_jo2, ev_fs, ev_jfn, ev_jfc, ev_jf1, ev_dct, ev_kvn, ev_kvc, ev_kv1, ev_kv2, ev_kv3, ev_dct1, ev_pn, ev_ps, ev_ps1, ev_sl, ev_sl1, ev_sl2, ev_sl3, ev_snil, ev_seq, ev_seqn, ev_seqr, ev_seqb, ev_seqc, ev_seqx, ev_sex, ev_sex1, ev_ret, ev_ret1, ev_retn, ev_sif, ev_sif1t, ev_sif1f, ev_brk, ev_cnt, ev_asg, ev_asg1, ev_gnm, ev_gnil, ev_gcons, ev_gcons1, ev_gtp, ev_gst, ev_gst1, ev_gsub, ev_gsub1, ev_gsub2, ev_gsub3, ev_par, ev_par1, ev_par3, ev_par31, ev_aug, ev_aug1, ev_aug2, ev_aug3, ev_for, ev_for1, ev_lcomp, ev_lcomp1, ev_wipn, ev_wipc, ev_iseq, ev_iseq1, ev_seqt, ev_seqf, ev_seqs, ev_seql, ev_seql1, ev_rg1, ev_rg11, ev_rg2, ev_rg21, ev_en, ev_en1, ev_en2, ev_outr, ev_outn, ev_outx, ev_ixi, ev_ixk, ev_ixl, ev_ixll, ev_ixld, ev_ixkk, ev_ix1, ev_ixt, ev_ixf, vv_oAdd, vv_oAddI, vv_oSub, vv_oLt, vv_oLe, vv_oGt, vv_oGe, vv_oEq, vv_oNe, vv_eqs, vv_nes, vv_eqns, vv_isn, vv_notn, vv_in_non, vv_in_bl, vv_in_int, vv_in_str, vv_in_tup, vv_in_frz, vv_in_loc, vv_neg, vv_tb, vv_ti, vv_tn, vv_tt, vv_tf, vv_mul, vv_div, vv_mod, vv_pow7, vv_pow8, vv_pow9, vv_pow18, vv_pow12, vv_pow6, vv_pow5, vv_pow4, vv_pow10, vv_pow16, vv_abs, vv_min, vv_max, vv_inti, vv_intb, vv_stri, vv_strs, vv_lent, vv_lenf, vv_lens, vv_htup, vv_hlen, vv_is_non_bool, vv_is_non_int, vv_is_non_str, vv_is_non_tuple, vv_is_bl_bool, vv_is_bl_int, vv_is_bl_str, vv_is_bl_tuple, vv_is_int_bool, vv_is_int_int, vv_is_int_str, vv_is_int_tuple, vv_is_str_bool, vv_is_str_int, vv_is_str_str, vv_is_str_tuple, vv_is_tup_bool, vv_is_tup_int, vv_is_tup_str, vv_is_tup_tuple, vv_is_frz_bool, vv_is_frz_int, vv_is_frz_str, vv_is_frz_tuple, vv_iss, vv_items_t, vv_items_f, vv_spl, vv_fmts, vv_fmti, vv_cats, vv_cast0, vv_cast1, vv_cast2, vv_cast3, vv_cast4, vv_cast5, vv_cast6, vv_cast7, vv_cast8, vv_cast9, vv_cast10, vv_cast11, vv_line0, vv_line1, vv_line2, vv_line3, vv_line4, vv_line5, vv_line6, vv_line7, vv_line8, vv_isl, vv_isl1, vv_lenl, vv_lenl1, vv_tupl, vv_tupl1, vv_items_l, vv_items_l1, vv_lst_f, vv_lst_l, vv_lst_l1, vv_app, vv_app1, vv_pop0, vv_pop01, vv_ins0, vv_ins01, vv_mull, vv_mull0, vv_mull1, vv_addl, vv_addl1, vv_slf, vv_slt, List.getElem?_cons_zero, List.getElem?_cons_succ, List.set_cons_zero, List.set_cons_succ, List.map_cons, List.map_nil, List.length_cons, List.length_nil, List.replicate_succ, List.replicate_zero, List.cons_append, List.nil_append, List.append_nil, Option.map_some, Option.map_none, Option.bind_some, Nat.reduceSub, Nat.reduceAdd, Nat.reduceMul, Nat.reduceLeDiff, Nat.zero_le, Int.reduceLT, Int.reduceLE, Int.reduceNeg, Int.reduceAdd, Int.reduceEq, Int.reduceMul, Int.reduceSub, eq_self, Bool.not_true, Bool.not_false, Bool.and_true, Bool.true_and, Bool.and_false, Bool.false_and, Bool.or_true, Bool.true_or, Bool.or_false, Bool.false_or, decide_true, decide_false, if_true, if_false, ite_true, ite_false, Bool.false_eq_true, and_true, true_and, and_false, false_and, not_true_eq_false, not_false_eq_true]
      rfl⟩) (by simp [sizeLine_eq]; omega)
  have e2 : (xs.map fun x => T.str (wL x)) = strTs (xs.map wL) := by simp [strTs]
  rw [e2] at c1
  simp only [List.nil_append] at c1
  simp only [c1, gc_listed hw hl, ev_var, ev_var1, ev_c, ev_vout, ev_bin, ev_bin1, ev_bin2, ev_un, ev_un1, ev_lnil, ev_lcons, ev_lcons1, ev_lcons2, ev_ldef, ev_ldef1, ev_lstar, ev_lstar1, ev_lstar1b, ev_lstar2, ev_tup, ev_tup1, ev_lst, ev_lst1, ev_lchk, ev_lchk1, ev_call, ev_call1, ev_g, ev_b, ev_b1, ev_tmp, ev_tmp1, ev_comp, ev_comp1, ev_if, ev_if1t, ev_if1f, ev_bt, ev_bt1, ev_bt2, ev_bv, ev_bv1, ev_bnot, ev_bnot1, ev_band, ev_band1t, ev_band1f, ev_bor, ev_bor1t, ev_bor1f, ev_byes, ev_eand, ev_eand1, ev_eand2t, ev_eand2f, ev_eor, ev_eor1, ev_eor2t, ev_eor2f, ev_enot, ev_enot1, ev_enot2, ev_ch, ev_ch1, ev_ch2, ev_ch3t, ev_ch3f, ev_ch4, ev_m, ev_m1, ev_m2, ev_m3, ev_jo, ev_jo1, ev_jo2, ev_fs, ev_jfn, ev_jfc, ev_jf1, ev_dct, ev_kvn, ev_kvc, ev_kv1, ev_kv2, ev_kv3, ev_dct1, ev_pn, ev_ps, ev_ps1, ev_sl, ev_sl1, ev_sl2, ev_sl3, ev_snil, ev_seq, ev_seqn, ev_seqr, ev_seqb, ev_seqc, ev_seqx, ev_sex, ev_sex1, ev_ret, ev_ret1, ev_retn, ev_sif, ev_sif1t, ev_sif1f, ev_brk, ev_cnt, ev_asg, ev_asg1, ev_gnm, ev_gnil, ev_gcons, ev_gcons1, ev_gtp, ev_gst, ev_gst1, ev_gsub, ev_gsub1, ev_gsub2, ev_gsub3, ev_par, ev_par1, ev_par3, ev_par31, ev_aug, ev_aug1, ev_aug2, ev_aug3, ev_for, ev_for1, ev_lcomp, ev_lcomp1, ev_wipn, ev_wipc, ev_iseq, ev_iseq1, ev_seqt, ev_seqf, ev_seqs, ev_seql, ev_seql1, ev_rg1, ev_rg11, ev_rg2, ev_rg21, ev_en, ev_en1, ev_en2, ev_outr, ev_outn, ev_outx, ev_ixi, ev_ixk, ev_ixl, ev_ixll, ev_ixld, ev_ixkk, ev_ix1, ev_ixt, ev_ixf, vv_oAdd, vv_oAddI, vv_oSub, vv_oLt, vv_oLe, vv_oGt, vv_oGe, vv_oEq, vv_oNe, vv_eqs, vv_nes, vv_eqns, vv_isn, vv_notn, vv_in_non, vv_in_bl, vv_in_int, vv_in_str, vv_in_tup, vv_in_frz, vv_in_loc, vv_neg, vv_tb, vv_ti, vv_tn, vv_tt, vv_tf, vv_mul, vv_div, vv_mod, vv_pow7, vv_pow8, vv_pow9, vv_pow18, vv_pow12, vv_pow6, vv_pow5, vv_pow4, vv_pow10, vv_pow16, vv_abs, vv_min, vv_max, vv_inti, vv_intb, vv_stri, vv_strs, vv_lent, vv_lenf, vv_lens, vv_htup, vv_hlen, vv_is_non_bool, vv_is_non_int, vv_is_non_str, vv_is_non_tuple, vv_is_bl_bool, vv_is_bl_int, vv_is_bl_str, vv_is_bl_tuple, vv_is_int_bool, vv_is_int_int, vv_is_int_str, vv_is_int_tuple, vv_is_str_bool, vv_is_str_int, vv_is_str_str, vv_is_str_tuple, vv_is_tup_bool, vv_is_tup_int, vv_is_tup_str, vv_is_tup_tuple, vv_is_frz_bool, vv_is_frz_int, vv_is_frz_str, vv_is_frz_tuple, vv_iss, vv_items_t, vv_items_f, vv_spl, vv_fmts, vv_fmti, vv_cats, vv_cast0, vv_cast1, vv_cast2, vv_cast3, vv_cast4, vv_cast5, vv_cast6, vv_cast7, vv_cast8, vv_cast9, vv_cast10, vv_cast11, vv_line0, vv_line1, vv_line2, vv_line3, vv_line4, vv_line5, vv_line6, vv_line7, vv_line8, vv_isl, vv_isl1, vv_lenl, vv_lenl1, vv_tupl, vv_tupl1, vv_items_l, vv_items_l1, vv_lst_f, vv_lst_l, vv_lst_l1, vv_app, vv_app1, vv_pop0, vv_pop01, vv_ins0, vv_ins01, vv_mull, vv_mull0, vv_mull1, vv_addl, vv_addl1, vv_slf, vv_slt, List.getElem?_cons_zero, List.getElem?_cons_succ, List.set_cons_zero, List.set_cons_succ, List.map_cons, List.map_nil, List.length_cons, List.length_nil, List.replicate_succ, List.replicate_zero, List.cons_append, List.nil_append, List.append_nil, Option.map_some, Option.map_none, Option.bind_some, Nat.reduceSub, Nat.reduceAdd, Nat.reduceMul, Nat.reduceLeDiff, Nat.zero_le, Int.reduceLT, Int.reduceLE, Int.reduceNeg, Int.reduceAdd, Int.reduceEq, Int.reduceMul, Int.reduceSub, eq_self, Bool.not_true, Bool.not_false, Bool.and_true, Bool.true_and, Bool.and_false, Bool.false_and, Bool.or_true, Bool.true_or, Bool.or_false, Bool.false_or, decide_true, decide_false, if_true, if_false, ite_true, ite_false, Bool.false_eq_true, and_true, true_and, and_false, false_and, not_true_eq_false, not_false_eq_true]
theorem log_text_ok {xs : List (Int × Int)} (h : ∀ x ∈ xs, okP x) (hl : xs.length ≤ 400) : run pr (k + 2) "log_text" [.tup (xs.map encP)] s = .ok (.str (textOf wP xs)) s := by
  have hw : ∀ x ∈ xs, Wd (wP x) := fun x hx => wd_P (h x hx)
  refine run_pure pr_log_text rfl ?_
  unfold b_log_text
  have c1 : compL chkT (gTp 2 (gsCons (gNm 1) (gsCons (gNm 2) gsNil))) bYes (eFs [eUn fmtT (eVar 1), eC (.str "-"), eUn fmtT (eVar 2)]) [some (.tup (xs.map encP)), none, none] (xs.map encP) [] s = .ok ([] ++ xs.map fun x => T.str (wP x)) s :=
    compL_map rfl xs [] (fun x hx => ⟨[some (.tup (xs.map encP)), some (.int x.1), some (.int x.2)], by simp only [encP, ev_var, ev_var1, ev_c, ev_vout, ev_bin, ev_bin1, ev_bin2, ev_un, ev_un1, ev_lnil, ev_lcons, ev_lcons1, ev_lcons2, ev_ldef, ev_ldef1, ev_lstar, ev_lstar1, ev_lstar1b, ev_lstar2, ev_tup, ev_tup1, ev_lst, ev_lst1, ev_lchk, ev_lchk1, ev_call, ev_call1, ev_g, ev_b, ev_b1, ev_tmp, ev_tmp1, ev_comp, ev_comp1, ev_if, ev_if1t, ev_if1f, ev_bt, ev_bt1, ev_bt2, ev_bv, ev_bv1, ev_bnot, ev_bnot1, ev_band, ev_band1t, ev_band1f, ev_bor, ev_bor1t, ev_bor1f, ev_byes, ev_eand, ev_eand1, ev_eand2t, ev_eand2f, ev_eor, ev_eor1, ev_eor2t, ev_eor2f, ev_enot, ev_enot1, ev_enot2, ev_ch, ev_ch1, ev_ch2, ev_ch3t, ev_ch3f, ev_ch4, ev_m, ev_m1, ev_m2, ev_m3, ev_jo, ev_jo1, ev_jo2, ev_fs, ev_jfn, ev_jfc, ev_jf1, ev_dct, ev_kvn, ev_kvc, ev_kv1, ev_kv2, ev_kv3, ev_dct1, ev_pn, ev_ps, ev_ps1, ev_sl, ev_sl1, ev_sl2, ev_sl3, ev_snil, ev_seq, ev_seqn, ev_seqr, ev_seqb, ev_seqc, ev_seqx, ev_sex, ev_sex1, ev_ret, ev_ret1, ev_retn, ev_sif, ev_sif1t, ev_sif1f, ev_brk, ev_cnt, ev_asg, ev_asg1, ev_gnm, ev_gnil, ev_gcons, ev_gcons1, ev_gtp, ev_gst, ev_gst1, ev_gsub, ev_gsub1, ev_gsub2, ev_gsub3, ev_par, ev_par1, ev_par3, ev_par31, ev_aug, ev_aug1, ev_aug2, ev_aug3, ev_for, ev_for1, ev_lcomp, ev_lcomp1, ev_wipn, ev_wipc, ev_iseq, ev_iseq1, ev_seqt, ev_seqf, ev_seqs, ev_seql, ev_seql1, ev_rg1, ev_rg11, ev_rg2, ev_rg21, ev_en, ev_en1, ev_en2, ev_outr, ev_outn, ev_outx, ev_ixi, ev_ixk, ev_ixl, ev_ixll, ev_ixld, ev_ixkk, ev_ix1, ev_ixt, ev_ixf, vv_oAdd, vv_oAddI, vv_oSub, vv_oLt, vv_oLe, vv_oGt, vv_oGe, vv_oEq, vv_oNe, vv_eqs, vv_nes, vv_eqns, vv_isn, vv_notn, vv_in_non, vv_in_bl, vv_in_int, vv_in_str, vv_in_tup, vv_in_frz, vv_in_loc, vv_neg, vv_tb, vv_ti, vv_tn, vv_tt, vv_tf, vv_mul, vv_div, vv_mod, vv_pow7, vv_pow8, vv_pow9, vv_pow18, vv_pow12, vv_pow6, vv_pow5, vv_pow4, vv_pow10, vv_pow16, vv_abs, vv_min, vv_max, vv_inti, vv_intb, vv_stri, vv_strs, vv_lent, vv_lenf, vv_lens, vv_htup, vv_hlen, vv_is_non_bool, vv_is_non_int, vv_is_non_str, vv_is_non_tuple, vv_is_bl_bool, vv_is_bl_int, vv_is_bl_str, vv_is_bl_tuple, vv_is_int_bool, vv_is_int_int, vv_is_int_str, vv_is_int_tuple, vv_is_str_bool, vv_is_str_int, vv_is_str_str, vv_is_str_tuple, vv_is_tup_bool, vv_is_tup_int, vv_is_tup_str, vv_is_tup_tuple, vv_is_frz_bool, vv_is_frz_int, vv_is_frz_str, vv_is_frz_tuple, vv_iss, vv_items_t, vv_items_f, vv_spl, vv_fmts, vv_fmti, vv_cats, vv_cast0, vv_cast1, vv_cast2, vv_cast3, vv_cast4, vv_cast5, vv_cast6, vv_cast7, vv_cast8, vv_cast9, vv_cast10, vv_cast11, vv_line0, vv_line1, vv_line2, vv_line3, vv_line4, vv_line5, vv_line6, vv_line7, vv_line8, vv_isl, vv_isl1, vv_lenl, vv_lenl1, vv_tupl, vv_tupl1, vv_items_l, vv_items_l1, vv_lst_f, vv_lst_l, vv_lst_l1, vv_app, vv_app1, vv_pop0, vv_pop01, vv_ins0, vv_ins01, vv_mull, vv_mull0, vv_mull1, vv_addl, vv_addl1, vv_slf, vv_slt, List.getElem?_cons_zero, List.getElem?_cons_succ, List.set_cons_zero, List.set_cons_succ, List.map_cons, List.map_nil, List.length_cons, List.length_nil, List.replicate_succ, List.replicate_zero, List.cons_append, List.nil_append, List.append_nil, Option.map_some, Option.map_none, Option.bind_some, Nat.reduceSub, Nat.reduceAdd, Nat.reduceMul, Nat.reduceLeDiff, Nat.zero_le, Int.reduceLT, Int.reduceLE, Int.reduceNeg, Int.reduceAdd, Int.reduceEq, Int.reduceMul, Int.reduceSub, eq_self, Bool.not_true, Bool.not_false, Bool.and_true, Bool.true_and, Bool.and_false, Bool.false_and, Bool.or_true, Bool.true_or, Bool.or_false, Bool.false_or, decide_true, decide_false, if_true, if_false, ite_true, ite_false, Bool.false_eq_true, and_true, true_and, and_false, false_and, not_true_eq_false, not_false_eq_true], by
      obtain ⟨h1, h2, h3⟩ := h x hx
      have hk := num_len (i := x.1) (by omega) (by omega)
      have hn := num_len (i := x.2) (by omega) (by omega)
      have hi := okNs (i := x.1) (by omega) (by omega)
      have hj := okNs (i := x.2) (by omega) (by omega)
      have z1 := lchk_len (z := num x.1) (by omega)
      have z2 : (num x.1 ++ "-").length ≤ sizeLine := lchk_len (by rw [len_app, one_lens.2.1]; omega)
      have z3 : (num x.1 ++ "-" ++ num x.2).length ≤ sizeLine := lchk_len (by rw [len_app, len_app, one_lens.2.1]; omega)
      simp only [hi, hj, z1, z2, z3, empty_app, ev_var, ev_var1, ev_c, ev_vout, ev_bin, ev_bin1, ev_bin2, ev_un, ev_un1, ev_lnil, ev_lcons, ev_lcons1, ev_lcons2, ev_ldef, ev_ldef1, ev_lstar, ev_lstar1, ev_lstar1b, ev_lstar2, ev_tup, ev_tup1, ev_lst, ev_lst1, ev_lchk, ev_lchk1, ev_call, ev_call1, ev_g, ev_b, ev_b1, ev_tmp, ev_tmp1, ev_comp, ev_comp1, ev_if, ev_if1t, ev_if1f, ev_bt, ev_bt1, ev_bt2, ev_bv, ev_bv1, ev_bnot, ev_bnot1, ev_band, ev_band1t, ev_band1f, ev_bor, ev_bor1t, ev_bor1f, ev_byes, ev_eand, ev_eand1, ev_eand2t, ev_eand2f, ev_eor, ev_eor1, ev_eor2t, ev_eor2f, ev_enot, ev_enot1, ev_enot2, ev_ch, ev_ch1, ev_ch2, ev_ch3t, ev_ch3f, ev_ch4, ev_m, ev_m1, ev_m2, ev_m3, ev_jo, ev_jo1, ev_jo2, ev_fs, ev_jfn, ev_jfc, ev_jf1, ev_dct, ev_kvn, ev_kvc, ev_kv1, ev_kv2, ev_kv3, ev_dct1, ev_pn, ev_ps, ev_ps1, ev_sl, ev_sl1, ev_sl2, ev_sl3, ev_snil, ev_seq, ev_seqn, ev_seqr, ev_seqb, ev_seqc, ev_seqx, ev_sex, ev_sex1, ev_ret, ev_ret1, ev_retn, ev_sif, ev_sif1t, ev_sif1f, ev_brk, ev_cnt, ev_asg, ev_asg1, ev_gnm, ev_gnil, ev_gcons, ev_gcons1, ev_gtp, ev_gst, ev_gst1, ev_gsub, ev_gsub1, ev_gsub2, ev_gsub3, ev_par, ev_par1, ev_par3, ev_par31, ev_aug, ev_aug1, ev_aug2, ev_aug3, ev_for, ev_for1, ev_lcomp, ev_lcomp1, ev_wipn, ev_wipc, ev_iseq, ev_iseq1, ev_seqt, ev_seqf, ev_seqs, ev_seql, ev_seql1, ev_rg1, ev_rg11, ev_rg2, ev_rg21, ev_en, ev_en1, ev_en2, ev_outr, ev_outn, ev_outx, ev_ixi, ev_ixk, ev_ixl, ev_ixll, ev_ixld, ev_ixkk, ev_ix1, ev_ixt, ev_ixf, vv_oAdd, vv_oAddI, vv_oSub, vv_oLt, vv_oLe, vv_oGt, vv_oGe, vv_oEq, vv_oNe, vv_eqs, vv_nes, vv_eqns, vv_isn, vv_notn, vv_in_non, vv_in_bl, vv_in_int, vv_in_str, vv_in_tup, vv_in_frz, vv_in_loc, vv_neg, vv_tb, vv_ti, vv_tn, vv_tt, vv_tf, vv_mul, vv_div, vv_mod, vv_pow7, vv_pow8, vv_pow9, vv_pow18, vv_pow12, vv_pow6, vv_pow5, vv_pow4, vv_pow10, vv_pow16, vv_abs, vv_min, vv_max, vv_inti, vv_intb, vv_stri, vv_strs, vv_lent, vv_lenf, vv_lens, vv_htup, vv_hlen, vv_is_non_bool, vv_is_non_int, vv_is_non_str, vv_is_non_tuple, vv_is_bl_bool, vv_is_bl_int, vv_is_bl_str, vv_is_bl_tuple, vv_is_int_bool, vv_is_int_int, vv_is_int_str, vv_is_int_tuple, vv_is_str_bool, vv_is_str_int, vv_is_str_str, vv_is_str_tuple, vv_is_tup_bool, vv_is_tup_int, vv_is_tup_str, vv_is_tup_tuple, vv_is_frz_bool, vv_is_frz_int, vv_is_frz_str, vv_is_frz_tuple, vv_iss, vv_items_t, vv_items_f, vv_spl, vv_fmts, vv_fmti, vv_cats, vv_cast0, vv_cast1, vv_cast2, vv_cast3, vv_cast4, vv_cast5, vv_cast6, vv_cast7, vv_cast8, vv_cast9, vv_cast10, vv_cast11, vv_line0, vv_line1, vv_line2, vv_line3, vv_line4, vv_line5, vv_line6, vv_line7, vv_line8, vv_isl, vv_isl1, vv_lenl, vv_lenl1, vv_tupl, vv_tupl1, vv_items_l, vv_items_l1, vv_lst_f, vv_lst_l, vv_lst_l1, vv_app, vv_app1, vv_pop0, vv_pop01, vv_ins0, vv_ins01, vv_mull, vv_mull0, vv_mull1, vv_addl, vv_addl1, vv_slf, vv_slt, List.getElem?_cons_zero, List.getElem?_cons_succ, List.set_cons_zero, List.set_cons_succ, List.map_cons, List.map_nil, List.length_cons, List.length_nil, List.replicate_succ, List.replicate_zero, List.cons_append, List.nil_append, List.append_nil, Option.map_some, Option.map_none, Option.bind_some, Nat.reduceSub, Nat.reduceAdd, Nat.reduceMul, Nat.reduceLeDiff, Nat.zero_le, Int.reduceLT, Int.reduceLE, Int.reduceNeg, Int.reduceAdd, Int.reduceEq, Int.reduceMul, Int.reduceSub, eq_self, Bool.not_true, Bool.not_false, Bool.and_true, Bool.true_and, Bool.and_false, Bool.false_and, Bool.or_true, Bool.true_or, Bool.or_false, Bool.false_or, decide_true, decide_false, if_true, if_false, ite_true, ite_false, Bool.false_eq_true, and_true, true_and, and_false, false_and, not_true_eq_false, not_false_eq_true]
      rfl⟩) (by simp [sizeLine_eq]; omega)
  have e2 : (xs.map fun x => T.str (wP x)) = strTs (xs.map wP) := by simp [strTs]
  rw [e2] at c1
  simp only [List.nil_append] at c1
  simp only [c1, gc_listed hw hl, ev_var, ev_var1, ev_c, ev_vout, ev_bin, ev_bin1, ev_bin2, ev_un, ev_un1, ev_lnil, ev_lcons, ev_lcons1, ev_lcons2, ev_ldef, ev_ldef1, ev_lstar, ev_lstar1, ev_lstar1b, ev_lstar2, ev_tup, ev_tup1, ev_lst, ev_lst1, ev_lchk, ev_lchk1, ev_call, ev_call1, ev_g, ev_b, ev_b1, ev_tmp, ev_tmp1, ev_comp, ev_comp1, ev_if, ev_if1t, ev_if1f, ev_bt, ev_bt1, ev_bt2, ev_bv, ev_bv1, ev_bnot, ev_bnot1, ev_band, ev_band1t, ev_band1f, ev_bor, ev_bor1t, ev_bor1f, ev_byes, ev_eand, ev_eand1, ev_eand2t, ev_eand2f, ev_eor, ev_eor1, ev_eor2t, ev_eor2f, ev_enot, ev_enot1, ev_enot2, ev_ch, ev_ch1, ev_ch2, ev_ch3t, ev_ch3f, ev_ch4, ev_m, ev_m1, ev_m2, ev_m3, ev_jo, ev_jo1, ev_jo2, ev_fs, ev_jfn, ev_jfc, ev_jf1, ev_dct, ev_kvn, ev_kvc, ev_kv1, ev_kv2, ev_kv3, ev_dct1, ev_pn, ev_ps, ev_ps1, ev_sl, ev_sl1, ev_sl2, ev_sl3, ev_snil, ev_seq, ev_seqn, ev_seqr, ev_seqb, ev_seqc, ev_seqx, ev_sex, ev_sex1, ev_ret, ev_ret1, ev_retn, ev_sif, ev_sif1t, ev_sif1f, ev_brk, ev_cnt, ev_asg, ev_asg1, ev_gnm, ev_gnil, ev_gcons, ev_gcons1, ev_gtp, ev_gst, ev_gst1, ev_gsub, ev_gsub1, ev_gsub2, ev_gsub3, ev_par, ev_par1, ev_par3, ev_par31, ev_aug, ev_aug1, ev_aug2, ev_aug3, ev_for, ev_for1, ev_lcomp, ev_lcomp1, ev_wipn, ev_wipc, ev_iseq, ev_iseq1, ev_seqt, ev_seqf, ev_seqs, ev_seql, ev_seql1, ev_rg1, ev_rg11, ev_rg2, ev_rg21, ev_en, ev_en1, ev_en2, ev_outr, ev_outn, ev_outx, ev_ixi, ev_ixk, ev_ixl, ev_ixll, ev_ixld, ev_ixkk, ev_ix1, ev_ixt, ev_ixf, vv_oAdd, vv_oAddI, vv_oSub, vv_oLt, vv_oLe, vv_oGt, vv_oGe, vv_oEq, vv_oNe, vv_eqs, vv_nes, vv_eqns, vv_isn, vv_notn, vv_in_non, vv_in_bl, vv_in_int, vv_in_str, vv_in_tup, vv_in_frz, vv_in_loc, vv_neg, vv_tb, vv_ti, vv_tn, vv_tt, vv_tf, vv_mul, vv_div, vv_mod, vv_pow7, vv_pow8, vv_pow9, vv_pow18, vv_pow12, vv_pow6, vv_pow5, vv_pow4, vv_pow10, vv_pow16, vv_abs, vv_min, vv_max, vv_inti, vv_intb, vv_stri, vv_strs, vv_lent, vv_lenf, vv_lens, vv_htup, vv_hlen, vv_is_non_bool, vv_is_non_int, vv_is_non_str, vv_is_non_tuple, vv_is_bl_bool, vv_is_bl_int, vv_is_bl_str, vv_is_bl_tuple, vv_is_int_bool, vv_is_int_int, vv_is_int_str, vv_is_int_tuple, vv_is_str_bool, vv_is_str_int, vv_is_str_str, vv_is_str_tuple, vv_is_tup_bool, vv_is_tup_int, vv_is_tup_str, vv_is_tup_tuple, vv_is_frz_bool, vv_is_frz_int, vv_is_frz_str, vv_is_frz_tuple, vv_iss, vv_items_t, vv_items_f, vv_spl, vv_fmts, vv_fmti, vv_cats, vv_cast0, vv_cast1, vv_cast2, vv_cast3, vv_cast4, vv_cast5, vv_cast6, vv_cast7, vv_cast8, vv_cast9, vv_cast10, vv_cast11, vv_line0, vv_line1, vv_line2, vv_line3, vv_line4, vv_line5, vv_line6, vv_line7, vv_line8, vv_isl, vv_isl1, vv_lenl, vv_lenl1, vv_tupl, vv_tupl1, vv_items_l, vv_items_l1, vv_lst_f, vv_lst_l, vv_lst_l1, vv_app, vv_app1, vv_pop0, vv_pop01, vv_ins0, vv_ins01, vv_mull, vv_mull0, vv_mull1, vv_addl, vv_addl1, vv_slf, vv_slt, List.getElem?_cons_zero, List.getElem?_cons_succ, List.set_cons_zero, List.set_cons_succ, List.map_cons, List.map_nil, List.length_cons, List.length_nil, List.replicate_succ, List.replicate_zero, List.cons_append, List.nil_append, List.append_nil, Option.map_some, Option.map_none, Option.bind_some, Nat.reduceSub, Nat.reduceAdd, Nat.reduceMul, Nat.reduceLeDiff, Nat.zero_le, Int.reduceLT, Int.reduceLE, Int.reduceNeg, Int.reduceAdd, Int.reduceEq, Int.reduceMul, Int.reduceSub, eq_self, Bool.not_true, Bool.not_false, Bool.and_true, Bool.true_and, Bool.and_false, Bool.false_and, Bool.or_true, Bool.true_or, Bool.or_false, Bool.false_or, decide_true, decide_false, if_true, if_false, ite_true, ite_false, Bool.false_eq_true, and_true, true_and, and_false, false_and, not_true_eq_false, not_false_eq_true]
theorem str_assoc (a b c : Str) : a ++ b ++ c = a ++ (b ++ c) := by
  apply TL.ext_tl
  simp only [tl_app, List.append_assoc]
theorem run_text_ok {x : Int × Int × Int} (h : okR' x) : run pr (k + 1) "run_text" [encR x] s = .ok (.str (wR x)) s := by
  have hc := okR_cnt h
  obtain ⟨h1, h2, h3, h4, h5, h6⟩ := h
  have n1 := num_len (i := x.1) (by omega) (by omega)
  have n2 := num_len (i := x.2.1) (by omega) (by omega)
  have n3 := num_len (i := x.2.2) (by omega) (by omega)
  have o1 := okNs (i := x.1) (by omega) (by omega)
  have o2 := okNs (i := x.2.1) (by omega) (by omega)
  have o3 := okNs (i := x.2.2) (by omega) (by omega)
  have p1 := one_lens.2.2.1
  have p2 := one_lens.2.2.2.1
  have z1 := lchk_len (z := num x.1) (by omega)
  have z2 : (num x.1 ++ "+").length ≤ sizeLine := lchk_len (by rw [len_app]; omega)
  have z3 : (num x.1 ++ "+" ++ num x.2.1).length ≤ sizeLine := lchk_len (by rw [len_app, len_app]; omega)
  have z4 : (num x.1 ++ "+" ++ num x.2.1 ++ "x").length ≤ sizeLine := lchk_len (by rw [len_app, len_app, len_app]; omega)
  have z5 : (num x.1 ++ "+" ++ num x.2.1 ++ "x" ++ num x.2.2).length ≤ sizeLine := lchk_len (by rw [len_app, len_app, len_app, len_app]; omega)
  refine run_pure pr_run_text rfl ?_
  unfold b_run_text
  have e0 : encR x = .tup [.int x.1, .int x.2.1, .int x.2.2] := rfl
  rw [e0]
  by_cases h7 : 1 < x.2.2
  · have ew : wR x = num x.1 ++ "+" ++ num x.2.1 ++ "x" ++ num x.2.2 := by
      unfold wR
      rw [if_pos h7]
      simp only [str_assoc]
    rw [ew]
    simp only [h7, o1, o2, o3, z1, z2, z3, z4, z5, empty_app, ev_var, ev_var1, ev_c, ev_vout, ev_bin, ev_bin1, ev_bin2, ev_un, ev_un1, ev_lnil, ev_lcons, ev_lcons1, ev_lcons2, ev_ldef, ev_ldef1, ev_lstar, ev_lstar1, ev_lstar1b, ev_lstar2, ev_tup, ev_tup1, ev_lst, ev_lst1, ev_lchk, ev_lchk1, ev_call, ev_call1, ev_g, ev_b, ev_b1, ev_tmp, ev_tmp1, ev_comp, ev_comp1, ev_if, ev_if1t, ev_if1f, ev_bt, ev_bt1, ev_bt2, ev_bv, ev_bv1, ev_bnot, ev_bnot1, ev_band, ev_band1t, ev_band1f, ev_bor, ev_bor1t, ev_bor1f, ev_byes, ev_eand, ev_eand1, ev_eand2t, ev_eand2f, ev_eor, ev_eor1, ev_eor2t, ev_eor2f, ev_enot, ev_enot1, ev_enot2, ev_ch, ev_ch1, ev_ch2, ev_ch3t, ev_ch3f, ev_ch4, ev_m, ev_m1, ev_m2, ev_m3, ev_jo, ev_jo1, ev_jo2, ev_fs, ev_jfn, ev_jfc, ev_jf1, ev_dct, ev_kvn, ev_kvc, ev_kv1, ev_kv2, ev_kv3, ev_dct1, ev_pn, ev_ps, ev_ps1, ev_sl, ev_sl1, ev_sl2, ev_sl3, ev_snil, ev_seq, ev_seqn, ev_seqr, ev_seqb, ev_seqc, ev_seqx, ev_sex, ev_sex1, ev_ret, ev_ret1, ev_retn, ev_sif, ev_sif1t, ev_sif1f, ev_brk, ev_cnt, ev_asg, ev_asg1, ev_gnm, ev_gnil, ev_gcons, ev_gcons1, ev_gtp, ev_gst, ev_gst1, ev_gsub, ev_gsub1, ev_gsub2, ev_gsub3, ev_par, ev_par1, ev_par3, ev_par31, ev_aug, ev_aug1, ev_aug2, ev_aug3, ev_for, ev_for1, ev_lcomp, ev_lcomp1, ev_wipn, ev_wipc, ev_iseq, ev_iseq1, ev_seqt, ev_seqf, ev_seqs, ev_seql, ev_seql1, ev_rg1, ev_rg11, ev_rg2, ev_rg21, ev_en, ev_en1, ev_en2, ev_outr, ev_outn, ev_outx, ev_ixi, ev_ixk, ev_ixl, ev_ixll, ev_ixld, ev_ixkk, ev_ix1, ev_ixt, ev_ixf, vv_oAdd, vv_oAddI, vv_oSub, vv_oLt, vv_oLe, vv_oGt, vv_oGe, vv_oEq, vv_oNe, vv_eqs, vv_nes, vv_eqns, vv_isn, vv_notn, vv_in_non, vv_in_bl, vv_in_int, vv_in_str, vv_in_tup, vv_in_frz, vv_in_loc, vv_neg, vv_tb, vv_ti, vv_tn, vv_tt, vv_tf, vv_mul, vv_div, vv_mod, vv_pow7, vv_pow8, vv_pow9, vv_pow18, vv_pow12, vv_pow6, vv_pow5, vv_pow4, vv_pow10, vv_pow16, vv_abs, vv_min, vv_max, vv_inti, vv_intb, vv_stri, vv_strs, vv_lent, vv_lenf, vv_lens, vv_htup, vv_hlen, vv_is_non_bool, vv_is_non_int, vv_is_non_str, vv_is_non_tuple, vv_is_bl_bool, vv_is_bl_int, vv_is_bl_str, vv_is_bl_tuple, vv_is_int_bool, vv_is_int_int, vv_is_int_str, vv_is_int_tuple, vv_is_str_bool, vv_is_str_int, vv_is_str_str, vv_is_str_tuple, vv_is_tup_bool, vv_is_tup_int, vv_is_tup_str, vv_is_tup_tuple, vv_is_frz_bool, vv_is_frz_int, vv_is_frz_str, vv_is_frz_tuple, vv_iss, vv_items_t, vv_items_f, vv_spl, vv_fmts, vv_fmti, vv_cats, vv_cast0, vv_cast1, vv_cast2, vv_cast3, vv_cast4, vv_cast5, vv_cast6, vv_cast7, vv_cast8, vv_cast9, vv_cast10, vv_cast11, vv_line0, vv_line1, vv_line2, vv_line3, vv_line4, vv_line5, vv_line6, vv_line7, vv_line8, vv_isl, vv_isl1, vv_lenl, vv_lenl1, vv_tupl, vv_tupl1, vv_items_l, vv_items_l1, vv_lst_f, vv_lst_l, vv_lst_l1, vv_app, vv_app1, vv_pop0, vv_pop01, vv_ins0, vv_ins01, vv_mull, vv_mull0, vv_mull1, vv_addl, vv_addl1, vv_slf, vv_slt, List.getElem?_cons_zero, List.getElem?_cons_succ, List.set_cons_zero, List.set_cons_succ, List.map_cons, List.map_nil, List.length_cons, List.length_nil, List.replicate_succ, List.replicate_zero, List.cons_append, List.nil_append, List.append_nil, Option.map_some, Option.map_none, Option.bind_some, Nat.reduceSub, Nat.reduceAdd, Nat.reduceMul, Nat.reduceLeDiff, Nat.zero_le, Int.reduceLT, Int.reduceLE, Int.reduceNeg, Int.reduceAdd, Int.reduceEq, Int.reduceMul, Int.reduceSub, eq_self, Bool.not_true, Bool.not_false, Bool.and_true, Bool.true_and, Bool.and_false, Bool.false_and, Bool.or_true, Bool.true_or, Bool.or_false, Bool.false_or, decide_true, decide_false, if_true, if_false, ite_true, ite_false, Bool.false_eq_true, and_true, true_and, and_false, false_and, not_true_eq_false, not_false_eq_true]
  · have ew : wR x = num x.1 := if_neg h7
    rw [ew]
    simp only [h7, o1, ev_var, ev_var1, ev_c, ev_vout, ev_bin, ev_bin1, ev_bin2, ev_un, ev_un1, ev_lnil, ev_lcons, ev_lcons1, ev_lcons2, ev_ldef, ev_ldef1, ev_lstar, ev_lstar1, ev_lstar1b, ev_lstar2, ev_tup, ev_tup1, ev_lst, ev_lst1, ev_lchk, ev_lchk1, ev_call, ev_call1, ev_g, ev_b, ev_b1, ev_tmp, ev_tmp1, ev_comp, ev_comp1, ev_if, ev_if1t, ev_if1f, ev_bt, ev_bt1, ev_bt2, ev_bv, ev_bv1, ev_bnot, ev_bnot1, ev_band, ev_band1t, ev_band1f, ev_bor, ev_bor1t, ev_bor1f, ev_byes, ev_eand, ev_eand1, ev_eand2t, ev_eand2f, ev_eor, ev_eor1, ev_eor2t, ev_eor2f, ev_enot, ev_enot1, ev_enot2, ev_ch, ev_ch1, ev_ch2, ev_ch3t, ev_ch3f, ev_ch4, ev_m, ev_m1, ev_m2, ev_m3, ev_jo, ev_jo1, ev_jo2, ev_fs, ev_jfn, ev_jfc, ev_jf1, ev_dct, ev_kvn, ev_kvc, ev_kv1, ev_kv2, ev_kv3, ev_dct1, ev_pn, ev_ps, ev_ps1, ev_sl, ev_sl1, ev_sl2, ev_sl3, ev_snil, ev_seq, ev_seqn, ev_seqr, ev_seqb, ev_seqc, ev_seqx, ev_sex, ev_sex1, ev_ret, ev_ret1, ev_retn, ev_sif, ev_sif1t, ev_sif1f, ev_brk, ev_cnt, ev_asg, ev_asg1, ev_gnm, ev_gnil, ev_gcons, ev_gcons1, ev_gtp, ev_gst, ev_gst1, ev_gsub, ev_gsub1, ev_gsub2, ev_gsub3, ev_par, ev_par1, ev_par3, ev_par31, ev_aug, ev_aug1, ev_aug2, ev_aug3, ev_for, ev_for1, ev_lcomp, ev_lcomp1, ev_wipn, ev_wipc, ev_iseq, ev_iseq1, ev_seqt, ev_seqf, ev_seqs, ev_seql, ev_seql1, ev_rg1, ev_rg11, ev_rg2, ev_rg21, ev_en, ev_en1, ev_en2, ev_outr, ev_outn, ev_outx, ev_ixi, ev_ixk, ev_ixl, ev_ixll, ev_ixld, ev_ixkk, ev_ix1, ev_ixt, ev_ixf, vv_oAdd, vv_oAddI, vv_oSub, vv_oLt, vv_oLe, vv_oGt, vv_oGe, vv_oEq, vv_oNe, vv_eqs, vv_nes, vv_eqns, vv_isn, vv_notn, vv_in_non, vv_in_bl, vv_in_int, vv_in_str, vv_in_tup, vv_in_frz, vv_in_loc, vv_neg, vv_tb, vv_ti, vv_tn, vv_tt, vv_tf, vv_mul, vv_div, vv_mod, vv_pow7, vv_pow8, vv_pow9, vv_pow18, vv_pow12, vv_pow6, vv_pow5, vv_pow4, vv_pow10, vv_pow16, vv_abs, vv_min, vv_max, vv_inti, vv_intb, vv_stri, vv_strs, vv_lent, vv_lenf, vv_lens, vv_htup, vv_hlen, vv_is_non_bool, vv_is_non_int, vv_is_non_str, vv_is_non_tuple, vv_is_bl_bool, vv_is_bl_int, vv_is_bl_str, vv_is_bl_tuple, vv_is_int_bool, vv_is_int_int, vv_is_int_str, vv_is_int_tuple, vv_is_str_bool, vv_is_str_int, vv_is_str_str, vv_is_str_tuple, vv_is_tup_bool, vv_is_tup_int, vv_is_tup_str, vv_is_tup_tuple, vv_is_frz_bool, vv_is_frz_int, vv_is_frz_str, vv_is_frz_tuple, vv_iss, vv_items_t, vv_items_f, vv_spl, vv_fmts, vv_fmti, vv_cats, vv_cast0, vv_cast1, vv_cast2, vv_cast3, vv_cast4, vv_cast5, vv_cast6, vv_cast7, vv_cast8, vv_cast9, vv_cast10, vv_cast11, vv_line0, vv_line1, vv_line2, vv_line3, vv_line4, vv_line5, vv_line6, vv_line7, vv_line8, vv_isl, vv_isl1, vv_lenl, vv_lenl1, vv_tupl, vv_tupl1, vv_items_l, vv_items_l1, vv_lst_f, vv_lst_l, vv_lst_l1, vv_app, vv_app1, vv_pop0, vv_pop01, vv_ins0, vv_ins01, vv_mull, vv_mull0, vv_mull1, vv_addl, vv_addl1, vv_slf, vv_slt, List.getElem?_cons_zero, List.getElem?_cons_succ, List.set_cons_zero, List.set_cons_succ, List.map_cons, List.map_nil, List.length_cons, List.length_nil, List.replicate_succ, List.replicate_zero, List.cons_append, List.nil_append, List.append_nil, Option.map_some, Option.map_none, Option.bind_some, Nat.reduceSub, Nat.reduceAdd, Nat.reduceMul, Nat.reduceLeDiff, Nat.zero_le, Int.reduceLT, Int.reduceLE, Int.reduceNeg, Int.reduceAdd, Int.reduceEq, Int.reduceMul, Int.reduceSub, eq_self, Bool.not_true, Bool.not_false, Bool.and_true, Bool.true_and, Bool.and_false, Bool.false_and, Bool.or_true, Bool.true_or, Bool.or_false, Bool.false_or, decide_true, decide_false, if_true, if_false, ite_true, ite_false, Bool.false_eq_true, and_true, true_and, and_false, false_and, not_true_eq_false, not_false_eq_true]
theorem motions_text_ok {xs : List (Int × Int × Int)} (h : ∀ x ∈ xs, okR' x) (hl : xs.length ≤ 400) : run pr (k + 2) "motions_text" [.tup (xs.map encR)] s = .ok (.str (textOf wR xs)) s := by
  have hw : ∀ x ∈ xs, Wd (wR x) := fun x hx => wd_R (h x hx)
  refine run_pure pr_motions_text rfl ?_
  unfold b_motions_text
  have c1 : compL chkT (gNm 1) bYes (eCall (run pr (k + 1)) "run_text" (lDef (lCons (eVar 1) lNil) [])) [some (.tup (xs.map encR)), none] (xs.map encR) [] s = .ok ([] ++ xs.map fun x => T.str (wR x)) s :=
    compL_map rfl xs [] (fun x hx => ⟨[some (.tup (xs.map encR)), some (encR x)], by simp only [ev_var, ev_var1, ev_c, ev_vout, ev_bin, ev_bin1, ev_bin2, ev_un, ev_un1, ev_lnil, ev_lcons, ev_lcons1, ev_lcons2, ev_ldef, ev_ldef1, ev_lstar, ev_lstar1, ev_lstar1b, ev_lstar2, ev_tup, ev_tup1, ev_lst, ev_lst1, ev_lchk, ev_lchk1, ev_call, ev_call1, ev_g, ev_b, ev_b1, ev_tmp, ev_tmp1, ev_comp, ev_comp1, ev_if, ev_if1t, ev_if1f, ev_bt, ev_bt1, ev_bt2, ev_bv, ev_bv1, ev_bnot, ev_bnot1, ev_band, ev_band1t, ev_band1f, ev_bor, ev_bor1t, ev_bor1f, ev_byes, ev_eand, ev_eand1, ev_eand2t, ev_eand2f, ev_eor, ev_eor1, ev_eor2t, ev_eor2f, ev_enot, ev_enot1, ev_enot2, ev_ch, ev_ch1, ev_ch2, ev_ch3t, ev_ch3f, ev_ch4, ev_m, ev_m1, ev_m2, ev_m3, ev_jo, ev_jo1, ev_jo2, ev_fs, ev_jfn, ev_jfc, ev_jf1, ev_dct, ev_kvn, ev_kvc, ev_kv1, ev_kv2, ev_kv3, ev_dct1, ev_pn, ev_ps, ev_ps1, ev_sl, ev_sl1, ev_sl2, ev_sl3, ev_snil, ev_seq, ev_seqn, ev_seqr, ev_seqb, ev_seqc, ev_seqx, ev_sex, ev_sex1, ev_ret, ev_ret1, ev_retn, ev_sif, ev_sif1t, ev_sif1f, ev_brk, ev_cnt, ev_asg, ev_asg1, ev_gnm, ev_gnil, ev_gcons, ev_gcons1, ev_gtp, ev_gst, ev_gst1, ev_gsub, ev_gsub1, ev_gsub2, ev_gsub3, ev_par, ev_par1, ev_par3, ev_par31, ev_aug, ev_aug1, ev_aug2, ev_aug3, ev_for, ev_for1, ev_lcomp, ev_lcomp1, ev_wipn, ev_wipc, ev_iseq, ev_iseq1, ev_seqt, ev_seqf, ev_seqs, ev_seql, ev_seql1, ev_rg1, ev_rg11, ev_rg2, ev_rg21, ev_en, ev_en1, ev_en2, ev_outr, ev_outn, ev_outx, ev_ixi, ev_ixk, ev_ixl, ev_ixll, ev_ixld, ev_ixkk, ev_ix1, ev_ixt, ev_ixf, vv_oAdd, vv_oAddI, vv_oSub, vv_oLt, vv_oLe, vv_oGt, vv_oGe, vv_oEq, vv_oNe, vv_eqs, vv_nes, vv_eqns, vv_isn, vv_notn, vv_in_non, vv_in_bl, vv_in_int, vv_in_str, vv_in_tup, vv_in_frz, vv_in_loc, vv_neg, vv_tb, vv_ti, vv_tn, vv_tt, vv_tf, vv_mul, vv_div, vv_mod, vv_pow7, vv_pow8, vv_pow9, vv_pow18, vv_pow12, vv_pow6, vv_pow5, vv_pow4, vv_pow10, vv_pow16, vv_abs, vv_min, vv_max, vv_inti, vv_intb, vv_stri, vv_strs, vv_lent, vv_lenf, vv_lens, vv_htup, vv_hlen, vv_is_non_bool, vv_is_non_int, vv_is_non_str, vv_is_non_tuple, vv_is_bl_bool, vv_is_bl_int, vv_is_bl_str, vv_is_bl_tuple, vv_is_int_bool, vv_is_int_int, vv_is_int_str, vv_is_int_tuple, vv_is_str_bool, vv_is_str_int, vv_is_str_str, vv_is_str_tuple, vv_is_tup_bool, vv_is_tup_int, vv_is_tup_str, vv_is_tup_tuple, vv_is_frz_bool, vv_is_frz_int, vv_is_frz_str, vv_is_frz_tuple, vv_iss, vv_items_t, vv_items_f, vv_spl, vv_fmts, vv_fmti, vv_cats, vv_cast0, vv_cast1, vv_cast2, vv_cast3, vv_cast4, vv_cast5, vv_cast6, vv_cast7, vv_cast8, vv_cast9, vv_cast10, vv_cast11, vv_line0, vv_line1, vv_line2, vv_line3, vv_line4, vv_line5, vv_line6, vv_line7, vv_line8, vv_isl, vv_isl1, vv_lenl, vv_lenl1, vv_tupl, vv_tupl1, vv_items_l, vv_items_l1, vv_lst_f, vv_lst_l, vv_lst_l1, vv_app, vv_app1, vv_pop0, vv_pop01, vv_ins0, vv_ins01, vv_mull, vv_mull0, vv_mull1, vv_addl, vv_addl1, vv_slf, vv_slt, List.getElem?_cons_zero, List.getElem?_cons_succ, List.set_cons_zero, List.set_cons_succ, List.map_cons, List.map_nil, List.length_cons, List.length_nil, List.replicate_succ, List.replicate_zero, List.cons_append, List.nil_append, List.append_nil, Option.map_some, Option.map_none, Option.bind_some, Nat.reduceSub, Nat.reduceAdd, Nat.reduceMul, Nat.reduceLeDiff, Nat.zero_le, Int.reduceLT, Int.reduceLE, Int.reduceNeg, Int.reduceAdd, Int.reduceEq, Int.reduceMul, Int.reduceSub, eq_self, Bool.not_true, Bool.not_false, Bool.and_true, Bool.true_and, Bool.and_false, Bool.false_and, Bool.or_true, Bool.true_or, Bool.or_false, Bool.false_or, decide_true, decide_false, if_true, if_false, ite_true, ite_false, Bool.false_eq_true, and_true, true_and, and_false, false_and, not_true_eq_false, not_false_eq_true], by
      simp only [run_text_ok (h x hx), ev_var, ev_var1, ev_c, ev_vout, ev_bin, ev_bin1, ev_bin2, ev_un, ev_un1, ev_lnil, ev_lcons, ev_lcons1, ev_lcons2, ev_ldef, ev_ldef1, ev_lstar, ev_lstar1, ev_lstar1b, ev_lstar2, ev_tup, ev_tup1, ev_lst, ev_lst1, ev_lchk, ev_lchk1, ev_call, ev_call1, ev_g, ev_b, ev_b1, ev_tmp, ev_tmp1, ev_comp, ev_comp1, ev_if, ev_if1t, ev_if1f, ev_bt, ev_bt1, ev_bt2, ev_bv, ev_bv1, ev_bnot, ev_bnot1, ev_band, ev_band1t, ev_band1f, ev_bor, ev_bor1t, ev_bor1f, ev_byes, ev_eand, ev_eand1, ev_eand2t, ev_eand2f, ev_eor, ev_eor1, ev_eor2t, ev_eor2f, ev_enot, ev_enot1, ev_enot2, ev_ch, ev_ch1, ev_ch2, ev_ch3t, ev_ch3f, ev_ch4, ev_m, ev_m1, ev_m2, ev_m3, ev_jo, ev_jo1, ev_jo2, ev_fs, ev_jfn, ev_jfc, ev_jf1, ev_dct, ev_kvn, ev_kvc, ev_kv1, ev_kv2, ev_kv3, ev_dct1, ev_pn, ev_ps, ev_ps1, ev_sl, ev_sl1, ev_sl2, ev_sl3, ev_snil, ev_seq, ev_seqn, ev_seqr, ev_seqb, ev_seqc, ev_seqx, ev_sex, ev_sex1, ev_ret, ev_ret1, ev_retn, ev_sif, ev_sif1t, ev_sif1f, ev_brk, ev_cnt, ev_asg, ev_asg1, ev_gnm, ev_gnil, ev_gcons, ev_gcons1, ev_gtp, ev_gst, ev_gst1, ev_gsub, ev_gsub1, ev_gsub2, ev_gsub3, ev_par, ev_par1, ev_par3, ev_par31, ev_aug, ev_aug1, ev_aug2, ev_aug3, ev_for, ev_for1, ev_lcomp, ev_lcomp1, ev_wipn, ev_wipc, ev_iseq, ev_iseq1, ev_seqt, ev_seqf, ev_seqs, ev_seql, ev_seql1, ev_rg1, ev_rg11, ev_rg2, ev_rg21, ev_en, ev_en1, ev_en2, ev_outr, ev_outn, ev_outx, ev_ixi, ev_ixk, ev_ixl, ev_ixll, ev_ixld, ev_ixkk, ev_ix1, ev_ixt, ev_ixf, vv_oAdd, vv_oAddI, vv_oSub, vv_oLt, vv_oLe, vv_oGt, vv_oGe, vv_oEq, vv_oNe, vv_eqs, vv_nes, vv_eqns, vv_isn, vv_notn, vv_in_non, vv_in_bl, vv_in_int, vv_in_str, vv_in_tup, vv_in_frz, vv_in_loc, vv_neg, vv_tb, vv_ti, vv_tn, vv_tt, vv_tf, vv_mul, vv_div, vv_mod, vv_pow7, vv_pow8, vv_pow9, vv_pow18, vv_pow12, vv_pow6, vv_pow5, vv_pow4, vv_pow10, vv_pow16, vv_abs, vv_min, vv_max, vv_inti, vv_intb, vv_stri, vv_strs, vv_lent, vv_lenf, vv_lens, vv_htup, vv_hlen, vv_is_non_bool, vv_is_non_int, vv_is_non_str, vv_is_non_tuple, vv_is_bl_bool, vv_is_bl_int, vv_is_bl_str, vv_is_bl_tuple, vv_is_int_bool, vv_is_int_int, vv_is_int_str, vv_is_int_tuple, vv_is_str_bool, vv_is_str_int, vv_is_str_str, vv_is_str_tuple, vv_is_tup_bool, vv_is_tup_int, vv_is_tup_str, vv_is_tup_tuple, vv_is_frz_bool, vv_is_frz_int, vv_is_frz_str, vv_is_frz_tuple, vv_iss, vv_items_t, vv_items_f, vv_spl, vv_fmts, vv_fmti, vv_cats, vv_cast0, vv_cast1, vv_cast2, vv_cast3, vv_cast4, vv_cast5, vv_cast6, vv_cast7, vv_cast8, vv_cast9, vv_cast10, vv_cast11, vv_line0, vv_line1, vv_line2, vv_line3, vv_line4, vv_line5, vv_line6, vv_line7, vv_line8, vv_isl, vv_isl1, vv_lenl, vv_lenl1, vv_tupl, vv_tupl1, vv_items_l, vv_items_l1, vv_lst_f, vv_lst_l, vv_lst_l1, vv_app, vv_app1, vv_pop0, vv_pop01, vv_ins0, vv_ins01, vv_mull, vv_mull0, vv_mull1, vv_addl, vv_addl1, vv_slf, vv_slt, List.getElem?_cons_zero, List.getElem?_cons_succ, List.set_cons_zero, List.set_cons_succ, List.map_cons, List.map_nil, List.length_cons, List.length_nil, List.replicate_succ, List.replicate_zero, List.cons_append, List.nil_append, List.append_nil, Option.map_some, Option.map_none, Option.bind_some, Nat.reduceSub, Nat.reduceAdd, Nat.reduceMul, Nat.reduceLeDiff, Nat.zero_le, Int.reduceLT, Int.reduceLE, Int.reduceNeg, Int.reduceAdd, Int.reduceEq, Int.reduceMul, Int.reduceSub, eq_self, Bool.not_true, Bool.not_false, Bool.and_true, Bool.true_and, Bool.and_false, Bool.false_and, Bool.or_true, Bool.true_or, Bool.or_false, Bool.false_or, decide_true, decide_false, if_true, if_false, ite_true, ite_false, Bool.false_eq_true, and_true, true_and, and_false, false_and, not_true_eq_false, not_false_eq_true]⟩) (by simp [sizeLine_eq]; omega)
  have e2 : (xs.map fun x => T.str (wR x)) = strTs (xs.map wR) := by simp [strTs]
  rw [e2] at c1
  simp only [List.nil_append] at c1
  simp only [c1, gc_listed hw hl, ev_var, ev_var1, ev_c, ev_vout, ev_bin, ev_bin1, ev_bin2, ev_un, ev_un1, ev_lnil, ev_lcons, ev_lcons1, ev_lcons2, ev_ldef, ev_ldef1, ev_lstar, ev_lstar1, ev_lstar1b, ev_lstar2, ev_tup, ev_tup1, ev_lst, ev_lst1, ev_lchk, ev_lchk1, ev_call, ev_call1, ev_g, ev_b, ev_b1, ev_tmp, ev_tmp1, ev_comp, ev_comp1, ev_if, ev_if1t, ev_if1f, ev_bt, ev_bt1, ev_bt2, ev_bv, ev_bv1, ev_bnot, ev_bnot1, ev_band, ev_band1t, ev_band1f, ev_bor, ev_bor1t, ev_bor1f, ev_byes, ev_eand, ev_eand1, ev_eand2t, ev_eand2f, ev_eor, ev_eor1, ev_eor2t, ev_eor2f, ev_enot, ev_enot1, ev_enot2, ev_ch, ev_ch1, ev_ch2, ev_ch3t, ev_ch3f, ev_ch4, ev_m, ev_m1, ev_m2, ev_m3, ev_jo, ev_jo1, ev_jo2, ev_fs, ev_jfn, ev_jfc, ev_jf1, ev_dct, ev_kvn, ev_kvc, ev_kv1, ev_kv2, ev_kv3, ev_dct1, ev_pn, ev_ps, ev_ps1, ev_sl, ev_sl1, ev_sl2, ev_sl3, ev_snil, ev_seq, ev_seqn, ev_seqr, ev_seqb, ev_seqc, ev_seqx, ev_sex, ev_sex1, ev_ret, ev_ret1, ev_retn, ev_sif, ev_sif1t, ev_sif1f, ev_brk, ev_cnt, ev_asg, ev_asg1, ev_gnm, ev_gnil, ev_gcons, ev_gcons1, ev_gtp, ev_gst, ev_gst1, ev_gsub, ev_gsub1, ev_gsub2, ev_gsub3, ev_par, ev_par1, ev_par3, ev_par31, ev_aug, ev_aug1, ev_aug2, ev_aug3, ev_for, ev_for1, ev_lcomp, ev_lcomp1, ev_wipn, ev_wipc, ev_iseq, ev_iseq1, ev_seqt, ev_seqf, ev_seqs, ev_seql, ev_seql1, ev_rg1, ev_rg11, ev_rg2, ev_rg21, ev_en, ev_en1, ev_en2, ev_outr, ev_outn, ev_outx, ev_ixi, ev_ixk, ev_ixl, ev_ixll, ev_ixld, ev_ixkk, ev_ix1, ev_ixt, ev_ixf, vv_oAdd, vv_oAddI, vv_oSub, vv_oLt, vv_oLe, vv_oGt, vv_oGe, vv_oEq, vv_oNe, vv_eqs, vv_nes, vv_eqns, vv_isn, vv_notn, vv_in_non, vv_in_bl, vv_in_int, vv_in_str, vv_in_tup, vv_in_frz, vv_in_loc, vv_neg, vv_tb, vv_ti, vv_tn, vv_tt, vv_tf, vv_mul, vv_div, vv_mod, vv_pow7, vv_pow8, vv_pow9, vv_pow18, vv_pow12, vv_pow6, vv_pow5, vv_pow4, vv_pow10, vv_pow16, vv_abs, vv_min, vv_max, vv_inti, vv_intb, vv_stri, vv_strs, vv_lent, vv_lenf, vv_lens, vv_htup, vv_hlen, vv_is_non_bool, vv_is_non_int, vv_is_non_str, vv_is_non_tuple, vv_is_bl_bool, vv_is_bl_int, vv_is_bl_str, vv_is_bl_tuple, vv_is_int_bool, vv_is_int_int, vv_is_int_str, vv_is_int_tuple, vv_is_str_bool, vv_is_str_int, vv_is_str_str, vv_is_str_tuple, vv_is_tup_bool, vv_is_tup_int, vv_is_tup_str, vv_is_tup_tuple, vv_is_frz_bool, vv_is_frz_int, vv_is_frz_str, vv_is_frz_tuple, vv_iss, vv_items_t, vv_items_f, vv_spl, vv_fmts, vv_fmti, vv_cats, vv_cast0, vv_cast1, vv_cast2, vv_cast3, vv_cast4, vv_cast5, vv_cast6, vv_cast7, vv_cast8, vv_cast9, vv_cast10, vv_cast11, vv_line0, vv_line1, vv_line2, vv_line3, vv_line4, vv_line5, vv_line6, vv_line7, vv_line8, vv_isl, vv_isl1, vv_lenl, vv_lenl1, vv_tupl, vv_tupl1, vv_items_l, vv_items_l1, vv_lst_f, vv_lst_l, vv_lst_l1, vv_app, vv_app1, vv_pop0, vv_pop01, vv_ins0, vv_ins01, vv_mull, vv_mull0, vv_mull1, vv_addl, vv_addl1, vv_slf, vv_slt, List.getElem?_cons_zero, List.getElem?_cons_succ, List.set_cons_zero, List.set_cons_succ, List.map_cons, List.map_nil, List.length_cons, List.length_nil, List.replicate_succ, List.replicate_zero, List.cons_append, List.nil_append, List.append_nil, Option.map_some, Option.map_none, Option.bind_some, Nat.reduceSub, Nat.reduceAdd, Nat.reduceMul, Nat.reduceLeDiff, Nat.zero_le, Int.reduceLT, Int.reduceLE, Int.reduceNeg, Int.reduceAdd, Int.reduceEq, Int.reduceMul, Int.reduceSub, eq_self, Bool.not_true, Bool.not_false, Bool.and_true, Bool.true_and, Bool.and_false, Bool.false_and, Bool.or_true, Bool.true_or, Bool.or_false, Bool.false_or, decide_true, decide_false, if_true, if_false, ite_true, ite_false, Bool.false_eq_true, and_true, true_and, and_false, false_and, not_true_eq_false, not_false_eq_true]
end
end K71

set_option maxRecDepth 100000
set_option maxHeartbeats 4000000
namespace K71
open PySem PySem.Spec PyProof.Rows L2 Fx
section
variable {d n k : Nat} {s : Sto} {α : Type} {w : α → Str} {enc : α → T} {encD : α → PyData}
theorem mapO_enc {f : T → Option PyData} : ∀ {xs : List α}, (∀ x ∈ xs, f (enc x) = some (encD x)) → mapO f (xs.map enc) = some (xs.map encD)
  | [], _ => rfl
  | a :: r, h => by
    rw [List.map_cons, mapO, h a List.mem_cons_self, mapO_enc fun x hx => h x (List.mem_cons_of_mem _ hx)]
    rfl
theorem toD_tup {xs : List α} (h : ∀ x ∈ xs, toD n s (enc x) = some (encD x)) : toD (n + 1) s (.tup (xs.map enc)) = some (.tuple (xs.map encD)) := by
  rw [toD]
  rw [mapO_enc h]; rfl
theorem eqv_tnil : ∀ l : List PyData, PyData.eqv (.tuple l) (.tuple []) = l.isEmpty
  | [] => by simp [PyData.eqv, PyData.eqvAll]
  | _ :: _ => by simp [PyData.eqv, PyData.eqvAll]
theorem tup_ne {xs : List α} (h : ∀ x ∈ xs, toD 29 s (enc x) = some (encD x)) : oNe (.tup (xs.map enc)) (.tup []) s = some (.bl (!xs.isEmpty), s) := by
  show (Fx.eqT s _ _).map _ = _
  have : Fx.eqT s (.tup (xs.map enc)) (.tup []) = some xs.isEmpty := by
    have t1 : toD DEEP s (.tup (xs.map enc)) = some (.tuple (xs.map encD)) := toD_tup (n := 29) h
    have t2 : toD DEEP s (.tup []) = some (.tuple []) := toD_tup (n := 29) (xs := ([] : List α)) (enc := enc) (encD := encD) (by simp)
    unfold Fx.eqT
    simp only [eqS, t1, t2, eqv_tnil]
    cases xs <;> rfl
  rw [this]; rfl
def dL (q : Str × Int) : PyData := .tuple [.str q.1, .int q.2]
def dP (q : Int × Int) : PyData := .tuple [.int q.1, .int q.2]
def dR (q : Int × Int × Int) : PyData := .tuple [.int q.1, .int q.2.1, .int q.2.2]
theorem toD_L {q : Str × Int} (h : okL q) : toD (n + 2) s (encL q) = some (dL q) := by
  have so : PyData.strOk q.1 = true := strOk_of fun c hc => by have := kind_free h.1 c hc; omega
  unfold encL dL
  rw [toD]
  rw [mapO, toD]
  simp only [so, if_true, mapO, toD, Option.map_some]
theorem toD_P {q : Int × Int} : toD (n + 2) s (encP q) = some (dP q) := by
  unfold encP dP
  rw [toD]
  rw [mapO, toD]
  simp only [mapO, toD, Option.map_some]
theorem toD_R {q : Int × Int × Int} : toD (n + 2) s (encR q) = some (dR q) := by
  unfold encR dR
  rw [toD]
  rw [mapO, toD]
  simp only [mapO, toD, Option.map_some]
theorem textE {xs : List α} (he : xs ≠ []) : textOf w xs = Txt.join " " (xs.map w) := by
  unfold textOf
  rw [if_neg]
  cases xs with
  | nil => exact absurd rfl he
  | cons a r => simp
theorem isE {xs : List α} (he : xs ≠ []) : xs.isEmpty = false := by
  cases xs with
  | nil => exact absurd rfl he
  | cons a r => rfl
theorem law_lamps_text_ok {xs : List (Str × Int)} (h : ∀ x ∈ xs, okL x) (hl : xs.length ≤ 400) : run pr (k + 1) "_law_lamps_text" [.tup (xs.map encL)] s = .ok (.str (textOf wL xs)) s := by
  have hw : ∀ x ∈ xs, Wd (wL x) := fun x hx => wd_L (h x hx)
  have ne := tup_ne (s := s) (enc := encL) (encD := dL) (xs := xs) fun x hx => toD_L (n := 27) (h x hx)
  refine run_pure pr__law_lamps_text rfl ?_
  unfold b__law_lamps_text
  by_cases he : xs = []
  · subst he
    simp only [List.map_nil, List.isEmpty_nil] at ne
    simp only [ne, textOf, List.isEmpty_nil, ev_var, ev_var1, ev_c, ev_vout, ev_bin, ev_bin1, ev_bin2, ev_un, ev_un1, ev_lnil, ev_lcons, ev_lcons1, ev_lcons2, ev_ldef, ev_ldef1, ev_lstar, ev_lstar1, ev_lstar1b, ev_lstar2, ev_tup, ev_tup1, ev_lst, ev_lst1, ev_lchk, ev_lchk1, ev_call, ev_call1, ev_g, ev_b, ev_b1, ev_tmp, ev_tmp1, ev_comp, ev_comp1, ev_if, ev_if1t, ev_if1f, ev_bt, ev_bt1, ev_bt2, ev_bv, ev_bv1, ev_bnot, ev_bnot1, ev_band, ev_band1t, ev_band1f, ev_bor, ev_bor1t, ev_bor1f, ev_byes, ev_eand, ev_eand1, ev_eand2t, ev_eand2f, ev_eor, ev_eor1, ev_eor2t, ev_eor2f, ev_enot, ev_enot1, ev_enot2, ev_ch, ev_ch1, ev_ch2, ev_ch3t, ev_ch3f, ev_ch4, ev_m, ev_m1, ev_m2, ev_m3, ev_jo, ev_jo1, ev_jo2, ev_fs, ev_jfn, ev_jfc, ev_jf1, ev_dct, ev_kvn, ev_kvc, ev_kv1, ev_kv2, ev_kv3, ev_dct1, ev_pn, ev_ps, ev_ps1, ev_sl, ev_sl1, ev_sl2, ev_sl3, ev_snil, ev_seq, ev_seqn, ev_seqr, ev_seqb, ev_seqc, ev_seqx, ev_sex, ev_sex1, ev_ret, ev_ret1, ev_retn, ev_sif, ev_sif1t, ev_sif1f, ev_brk, ev_cnt, ev_asg, ev_asg1, ev_gnm, ev_gnil, ev_gcons, ev_gcons1, ev_gtp, ev_gst, ev_gst1, ev_gsub, ev_gsub1, ev_gsub2, ev_gsub3, ev_par, ev_par1, ev_par3, ev_par31, ev_aug, ev_aug1, ev_aug2, ev_aug3, ev_for, ev_for1, ev_lcomp, ev_lcomp1, ev_wipn, ev_wipc, ev_iseq, ev_iseq1, ev_seqt, ev_seqf, ev_seqs, ev_seql, ev_seql1, ev_rg1, ev_rg11, ev_rg2, ev_rg21, ev_en, ev_en1, ev_en2, ev_outr, ev_outn, ev_outx, ev_ixi, ev_ixk, ev_ixl, ev_ixll, ev_ixld, ev_ixkk, ev_ix1, ev_ixt, ev_ixf, vv_oAdd, vv_oAddI, vv_oSub, vv_oLt, vv_oLe, vv_oGt, vv_oGe, vv_oEq, vv_oNe, vv_eqs, vv_nes, vv_eqns, vv_isn, vv_notn, vv_in_non, vv_in_bl, vv_in_int, vv_in_str, vv_in_tup, vv_in_frz, vv_in_loc, vv_neg, vv_tb, vv_ti, vv_tn, vv_tt, vv_tf, vv_mul, vv_div, vv_mod, vv_pow7, vv_pow8, vv_pow9, vv_pow18, vv_pow12, vv_pow6, vv_pow5, vv_pow4, vv_pow10, vv_pow16, vv_abs, vv_min, vv_max, vv_inti, vv_intb, vv_stri, vv_strs, vv_lent, vv_lenf, vv_lens, vv_htup, vv_hlen, vv_is_non_bool, vv_is_non_int, vv_is_non_str, vv_is_non_tuple, vv_is_bl_bool, vv_is_bl_int, vv_is_bl_str, vv_is_bl_tuple, vv_is_int_bool, vv_is_int_int, vv_is_int_str, vv_is_int_tuple, vv_is_str_bool, vv_is_str_int, vv_is_str_str, vv_is_str_tuple, vv_is_tup_bool, vv_is_tup_int, vv_is_tup_str, vv_is_tup_tuple, vv_is_frz_bool, vv_is_frz_int, vv_is_frz_str, vv_is_frz_tuple, vv_iss, vv_items_t, vv_items_f, vv_spl, vv_fmts, vv_fmti, vv_cats, vv_cast0, vv_cast1, vv_cast2, vv_cast3, vv_cast4, vv_cast5, vv_cast6, vv_cast7, vv_cast8, vv_cast9, vv_cast10, vv_cast11, vv_line0, vv_line1, vv_line2, vv_line3, vv_line4, vv_line5, vv_line6, vv_line7, vv_line8, vv_isl, vv_isl1, vv_lenl, vv_lenl1, vv_tupl, vv_tupl1, vv_items_l, vv_items_l1, vv_lst_f, vv_lst_l, vv_lst_l1, vv_app, vv_app1, vv_pop0, vv_pop01, vv_ins0, vv_ins01, vv_mull, vv_mull0, vv_mull1, vv_addl, vv_addl1, vv_slf, vv_slt, List.getElem?_cons_zero, List.getElem?_cons_succ, List.set_cons_zero, List.set_cons_succ, List.map_cons, List.map_nil, List.length_cons, List.length_nil, List.replicate_succ, List.replicate_zero, List.cons_append, List.nil_append, List.append_nil, Option.map_some, Option.map_none, Option.bind_some, Nat.reduceSub, Nat.reduceAdd, Nat.reduceMul, Nat.reduceLeDiff, Nat.zero_le, Int.reduceLT, Int.reduceLE, Int.reduceNeg, Int.reduceAdd, Int.reduceEq, Int.reduceMul, Int.reduceSub, eq_self, Bool.not_true, Bool.not_false, Bool.and_true, Bool.true_and, Bool.and_false, Bool.false_and, Bool.or_true, Bool.true_or, Bool.or_false, Bool.false_or, decide_true, decide_false, if_true, if_false, ite_true, ite_false, Bool.false_eq_true, and_true, true_and, and_false, false_and, not_true_eq_false, not_false_eq_true]
  · rw [isE he] at ne
    have c1 : compL chkT (gNm 1) bYes (eBin oAdd (eBin oAdd (eBin oIx (eVar 1) (eC (.int 0))) (eC (.str ":"))) (eB fStr (lCons (eBin oIx (eVar 1) (eC (.int 1))) lNil))) [some (.tup (xs.map encL)), none] (xs.map encL) [] s = .ok ([] ++ xs.map fun x => T.str (wL x)) s :=
      compL_map rfl xs [] (fun x hx => ⟨[some (.tup (xs.map encL)), some (encL x)], by simp only [ev_var, ev_var1, ev_c, ev_vout, ev_bin, ev_bin1, ev_bin2, ev_un, ev_un1, ev_lnil, ev_lcons, ev_lcons1, ev_lcons2, ev_ldef, ev_ldef1, ev_lstar, ev_lstar1, ev_lstar1b, ev_lstar2, ev_tup, ev_tup1, ev_lst, ev_lst1, ev_lchk, ev_lchk1, ev_call, ev_call1, ev_g, ev_b, ev_b1, ev_tmp, ev_tmp1, ev_comp, ev_comp1, ev_if, ev_if1t, ev_if1f, ev_bt, ev_bt1, ev_bt2, ev_bv, ev_bv1, ev_bnot, ev_bnot1, ev_band, ev_band1t, ev_band1f, ev_bor, ev_bor1t, ev_bor1f, ev_byes, ev_eand, ev_eand1, ev_eand2t, ev_eand2f, ev_eor, ev_eor1, ev_eor2t, ev_eor2f, ev_enot, ev_enot1, ev_enot2, ev_ch, ev_ch1, ev_ch2, ev_ch3t, ev_ch3f, ev_ch4, ev_m, ev_m1, ev_m2, ev_m3, ev_jo, ev_jo1, ev_jo2, ev_fs, ev_jfn, ev_jfc, ev_jf1, ev_dct, ev_kvn, ev_kvc, ev_kv1, ev_kv2, ev_kv3, ev_dct1, ev_pn, ev_ps, ev_ps1, ev_sl, ev_sl1, ev_sl2, ev_sl3, ev_snil, ev_seq, ev_seqn, ev_seqr, ev_seqb, ev_seqc, ev_seqx, ev_sex, ev_sex1, ev_ret, ev_ret1, ev_retn, ev_sif, ev_sif1t, ev_sif1f, ev_brk, ev_cnt, ev_asg, ev_asg1, ev_gnm, ev_gnil, ev_gcons, ev_gcons1, ev_gtp, ev_gst, ev_gst1, ev_gsub, ev_gsub1, ev_gsub2, ev_gsub3, ev_par, ev_par1, ev_par3, ev_par31, ev_aug, ev_aug1, ev_aug2, ev_aug3, ev_for, ev_for1, ev_lcomp, ev_lcomp1, ev_wipn, ev_wipc, ev_iseq, ev_iseq1, ev_seqt, ev_seqf, ev_seqs, ev_seql, ev_seql1, ev_rg1, ev_rg11, ev_rg2, ev_rg21, ev_en, ev_en1, ev_en2, ev_outr, ev_outn, ev_outx, ev_ixi, ev_ixk, ev_ixl, ev_ixll, ev_ixld, ev_ixkk, ev_ix1, ev_ixt, ev_ixf, vv_oAdd, vv_oAddI, vv_oSub, vv_oLt, vv_oLe, vv_oGt, vv_oGe, vv_oEq, vv_oNe, vv_eqs, vv_nes, vv_eqns, vv_isn, vv_notn, vv_in_non, vv_in_bl, vv_in_int, vv_in_str, vv_in_tup, vv_in_frz, vv_in_loc, vv_neg, vv_tb, vv_ti, vv_tn, vv_tt, vv_tf, vv_mul, vv_div, vv_mod, vv_pow7, vv_pow8, vv_pow9, vv_pow18, vv_pow12, vv_pow6, vv_pow5, vv_pow4, vv_pow10, vv_pow16, vv_abs, vv_min, vv_max, vv_inti, vv_intb, vv_stri, vv_strs, vv_lent, vv_lenf, vv_lens, vv_htup, vv_hlen, vv_is_non_bool, vv_is_non_int, vv_is_non_str, vv_is_non_tuple, vv_is_bl_bool, vv_is_bl_int, vv_is_bl_str, vv_is_bl_tuple, vv_is_int_bool, vv_is_int_int, vv_is_int_str, vv_is_int_tuple, vv_is_str_bool, vv_is_str_int, vv_is_str_str, vv_is_str_tuple, vv_is_tup_bool, vv_is_tup_int, vv_is_tup_str, vv_is_tup_tuple, vv_is_frz_bool, vv_is_frz_int, vv_is_frz_str, vv_is_frz_tuple, vv_iss, vv_items_t, vv_items_f, vv_spl, vv_fmts, vv_fmti, vv_cats, vv_cast0, vv_cast1, vv_cast2, vv_cast3, vv_cast4, vv_cast5, vv_cast6, vv_cast7, vv_cast8, vv_cast9, vv_cast10, vv_cast11, vv_line0, vv_line1, vv_line2, vv_line3, vv_line4, vv_line5, vv_line6, vv_line7, vv_line8, vv_isl, vv_isl1, vv_lenl, vv_lenl1, vv_tupl, vv_tupl1, vv_items_l, vv_items_l1, vv_lst_f, vv_lst_l, vv_lst_l1, vv_app, vv_app1, vv_pop0, vv_pop01, vv_ins0, vv_ins01, vv_mull, vv_mull0, vv_mull1, vv_addl, vv_addl1, vv_slf, vv_slt, List.getElem?_cons_zero, List.getElem?_cons_succ, List.set_cons_zero, List.set_cons_succ, List.map_cons, List.map_nil, List.length_cons, List.length_nil, List.replicate_succ, List.replicate_zero, List.cons_append, List.nil_append, List.append_nil, Option.map_some, Option.map_none, Option.bind_some, Nat.reduceSub, Nat.reduceAdd, Nat.reduceMul, Nat.reduceLeDiff, Nat.zero_le, Int.reduceLT, Int.reduceLE, Int.reduceNeg, Int.reduceAdd, Int.reduceEq, Int.reduceMul, Int.reduceSub, eq_self, Bool.not_true, Bool.not_false, Bool.and_true, Bool.true_and, Bool.and_false, Bool.false_and, Bool.or_true, Bool.true_or, Bool.or_false, Bool.false_or, decide_true, decide_false, if_true, if_false, ite_true, ite_false, Bool.false_eq_true, and_true, true_and, and_false, false_and, not_true_eq_false, not_false_eq_true], by
        have ho := h x hx
        have hk := kind_len ho.1
        have hn := num_len (i := x.2) (by have := ho.2.1; omega) (by have := ho.2.2; omega)
        have hi := okNs (i := x.2) (by have := ho.2.1; omega) (by have := ho.2.2; omega)
        have z2 : x.1.length + (":" : Str).length ≤ sizeLine := by rw [sizeLine_eq, one_lens.1]; omega
        have z3 : (x.1 ++ ":").length + (num x.2).length ≤ sizeLine := by rw [sizeLine_eq, len_app, one_lens.1]; omega
        simp only [encL, at0, at1, hi, z2, z3, ev_var, ev_var1, ev_c, ev_vout, ev_bin, ev_bin1, ev_bin2, ev_un, ev_un1, ev_lnil, ev_lcons, ev_lcons1, ev_lcons2, ev_ldef, ev_ldef1, ev_lstar, ev_lstar1, ev_lstar1b, ev_lstar2, ev_tup, ev_tup1, ev_lst, ev_lst1, ev_lchk, ev_lchk1, ev_call, ev_call1, ev_g, ev_b, ev_b1, ev_tmp, ev_tmp1, ev_comp, ev_comp1, ev_if, ev_if1t, ev_if1f, ev_bt, ev_bt1, ev_bt2, ev_bv, ev_bv1, ev_bnot, ev_bnot1, ev_band, ev_band1t, ev_band1f, ev_bor, ev_bor1t, ev_bor1f, ev_byes, ev_eand, ev_eand1, ev_eand2t, ev_eand2f, ev_eor, ev_eor1, ev_eor2t, ev_eor2f, ev_enot, ev_enot1, ev_enot2, ev_ch, ev_ch1, ev_ch2, ev_ch3t, ev_ch3f, ev_ch4, ev_m, ev_m1, ev_m2, ev_m3, ev_jo, ev_jo1, ev_jo2, ev_fs, ev_jfn, ev_jfc, ev_jf1, ev_dct, ev_kvn, ev_kvc, ev_kv1, ev_kv2, ev_kv3, ev_dct1, ev_pn, ev_ps, ev_ps1, ev_sl, ev_sl1, ev_sl2, ev_sl3, ev_snil, ev_seq, ev_seqn, ev_seqr, ev_seqb, ev_seqc, ev_seqx, ev_sex, ev_sex1, ev_ret, ev_ret1, ev_retn, ev_sif, ev_sif1t, ev_sif1f, ev_brk, ev_cnt, ev_asg, ev_asg1, ev_gnm, ev_gnil, ev_gcons, ev_gcons1, ev_gtp, ev_gst, ev_gst1, ev_gsub, ev_gsub1, ev_gsub2, ev_gsub3, ev_par, ev_par1, ev_par3, ev_par31, ev_aug, ev_aug1, ev_aug2, ev_aug3, ev_for, ev_for1, ev_lcomp, ev_lcomp1, ev_wipn, ev_wipc, ev_iseq, ev_iseq1, ev_seqt, ev_seqf, ev_seqs, ev_seql, ev_seql1, ev_rg1, ev_rg11, ev_rg2, ev_rg21, ev_en, ev_en1, ev_en2, ev_outr, ev_outn, ev_outx, ev_ixi, ev_ixk, ev_ixl, ev_ixll, ev_ixld, ev_ixkk, ev_ix1, ev_ixt, ev_ixf, vv_oAdd, vv_oAddI, vv_oSub, vv_oLt, vv_oLe, vv_oGt, vv_oGe, vv_oEq, vv_oNe, vv_eqs, vv_nes, vv_eqns, vv_isn, vv_notn, vv_in_non, vv_in_bl, vv_in_int, vv_in_str, vv_in_tup, vv_in_frz, vv_in_loc, vv_neg, vv_tb, vv_ti, vv_tn, vv_tt, vv_tf, vv_mul, vv_div, vv_mod, vv_pow7, vv_pow8, vv_pow9, vv_pow18, vv_pow12, vv_pow6, vv_pow5, vv_pow4, vv_pow10, vv_pow16, vv_abs, vv_min, vv_max, vv_inti, vv_intb, vv_stri, vv_strs, vv_lent, vv_lenf, vv_lens, vv_htup, vv_hlen, vv_is_non_bool, vv_is_non_int, vv_is_non_str, vv_is_non_tuple, vv_is_bl_bool, vv_is_bl_int, vv_is_bl_str, vv_is_bl_tuple, vv_is_int_bool, vv_is_int_int, vv_is_int_str, vv_is_int_tuple, vv_is_str_bool, vv_is_str_int, vv_is_str_str, vv_is_str_tuple, vv_is_tup_bool, vv_is_tup_int, vv_is_tup_str, vv_is_tup_tuple, vv_is_frz_bool, vv_is_frz_int, vv_is_frz_str, vv_is_frz_tuple, vv_iss, vv_items_t, vv_items_f, vv_spl, vv_fmts, vv_fmti, vv_cats, vv_cast0, vv_cast1, vv_cast2, vv_cast3, vv_cast4, vv_cast5, vv_cast6, vv_cast7, vv_cast8, vv_cast9, vv_cast10, vv_cast11, vv_line0, vv_line1, vv_line2, vv_line3, vv_line4, vv_line5, vv_line6, vv_line7, vv_line8, vv_isl, vv_isl1, vv_lenl, vv_lenl1, vv_tupl, vv_tupl1, vv_items_l, vv_items_l1, vv_lst_f, vv_lst_l, vv_lst_l1, vv_app, vv_app1, vv_pop0, vv_pop01, vv_ins0, vv_ins01, vv_mull, vv_mull0, vv_mull1, vv_addl, vv_addl1, vv_slf, vv_slt, List.getElem?_cons_zero, List.getElem?_cons_succ, List.set_cons_zero, List.set_cons_succ, List.map_cons, List.map_nil, List.length_cons, List.length_nil, List.replicate_succ, List.replicate_zero, List.cons_append, List.nil_append, List.append_nil, Option.map_some, Option.map_none, Option.bind_some, Nat.reduceSub, Nat.reduceAdd, Nat.reduceMul, Nat.reduceLeDiff, Nat.zero_le, Int.reduceLT, Int.reduceLE, Int.reduceNeg, Int.reduceAdd, Int.reduceEq, Int.reduceMul, Int.reduceSub, eq_self, Bool.not_true, Bool.not_false, Bool.and_true, Bool.true_and, Bool.and_false, Bool.false_and, Bool.or_true, Bool.true_or, Bool.or_false, Bool.false_or, decide_true, decide_false, if_true, if_false, ite_true, ite_false, Bool.false_eq_true, and_true, true_and, and_false, false_and, not_true_eq_false, not_false_eq_true]
        rfl⟩) (by simp [sizeLine_eq]; omega)
    have e2 : (xs.map fun x => T.str (wL x)) = strTs (xs.map wL) := by simp [strTs]
    rw [e2] at c1
    simp only [List.nil_append] at c1
    have j := joinT_at (s := s) (ps := xs.map wL) (fun p hp => by obtain ⟨x, hx, rfl⟩ := List.mem_map.mp hp; exact (hw x hx).ln) (by rw [List.length_map]; exact hl)
    rw [textE he]
    simp only [ne, c1, j, ev_var, ev_var1, ev_c, ev_vout, ev_bin, ev_bin1, ev_bin2, ev_un, ev_un1, ev_lnil, ev_lcons, ev_lcons1, ev_lcons2, ev_ldef, ev_ldef1, ev_lstar, ev_lstar1, ev_lstar1b, ev_lstar2, ev_tup, ev_tup1, ev_lst, ev_lst1, ev_lchk, ev_lchk1, ev_call, ev_call1, ev_g, ev_b, ev_b1, ev_tmp, ev_tmp1, ev_comp, ev_comp1, ev_if, ev_if1t, ev_if1f, ev_bt, ev_bt1, ev_bt2, ev_bv, ev_bv1, ev_bnot, ev_bnot1, ev_band, ev_band1t, ev_band1f, ev_bor, ev_bor1t, ev_bor1f, ev_byes, ev_eand, ev_eand1, ev_eand2t, ev_eand2f, ev_eor, ev_eor1, ev_eor2t, ev_eor2f, ev_enot, ev_enot1, ev_enot2, ev_ch, ev_ch1, ev_ch2, ev_ch3t, ev_ch3f, ev_ch4, ev_m, ev_m1, ev_m2, ev_m3, ev_jo, ev_jo1, ev_jo2, ev_fs, ev_jfn, ev_jfc, ev_jf1, ev_dct, ev_kvn, ev_kvc, ev_kv1, ev_kv2, ev_kv3, ev_dct1, ev_pn, ev_ps, ev_ps1, ev_sl, ev_sl1, ev_sl2, ev_sl3, ev_snil, ev_seq, ev_seqn, ev_seqr, ev_seqb, ev_seqc, ev_seqx, ev_sex, ev_sex1, ev_ret, ev_ret1, ev_retn, ev_sif, ev_sif1t, ev_sif1f, ev_brk, ev_cnt, ev_asg, ev_asg1, ev_gnm, ev_gnil, ev_gcons, ev_gcons1, ev_gtp, ev_gst, ev_gst1, ev_gsub, ev_gsub1, ev_gsub2, ev_gsub3, ev_par, ev_par1, ev_par3, ev_par31, ev_aug, ev_aug1, ev_aug2, ev_aug3, ev_for, ev_for1, ev_lcomp, ev_lcomp1, ev_wipn, ev_wipc, ev_iseq, ev_iseq1, ev_seqt, ev_seqf, ev_seqs, ev_seql, ev_seql1, ev_rg1, ev_rg11, ev_rg2, ev_rg21, ev_en, ev_en1, ev_en2, ev_outr, ev_outn, ev_outx, ev_ixi, ev_ixk, ev_ixl, ev_ixll, ev_ixld, ev_ixkk, ev_ix1, ev_ixt, ev_ixf, vv_oAdd, vv_oAddI, vv_oSub, vv_oLt, vv_oLe, vv_oGt, vv_oGe, vv_oEq, vv_oNe, vv_eqs, vv_nes, vv_eqns, vv_isn, vv_notn, vv_in_non, vv_in_bl, vv_in_int, vv_in_str, vv_in_tup, vv_in_frz, vv_in_loc, vv_neg, vv_tb, vv_ti, vv_tn, vv_tt, vv_tf, vv_mul, vv_div, vv_mod, vv_pow7, vv_pow8, vv_pow9, vv_pow18, vv_pow12, vv_pow6, vv_pow5, vv_pow4, vv_pow10, vv_pow16, vv_abs, vv_min, vv_max, vv_inti, vv_intb, vv_stri, vv_strs, vv_lent, vv_lenf, vv_lens, vv_htup, vv_hlen, vv_is_non_bool, vv_is_non_int, vv_is_non_str, vv_is_non_tuple, vv_is_bl_bool, vv_is_bl_int, vv_is_bl_str, vv_is_bl_tuple, vv_is_int_bool, vv_is_int_int, vv_is_int_str, vv_is_int_tuple, vv_is_str_bool, vv_is_str_int, vv_is_str_str, vv_is_str_tuple, vv_is_tup_bool, vv_is_tup_int, vv_is_tup_str, vv_is_tup_tuple, vv_is_frz_bool, vv_is_frz_int, vv_is_frz_str, vv_is_frz_tuple, vv_iss, vv_items_t, vv_items_f, vv_spl, vv_fmts, vv_fmti, vv_cats, vv_cast0, vv_cast1, vv_cast2, vv_cast3, vv_cast4, vv_cast5, vv_cast6, vv_cast7, vv_cast8, vv_cast9, vv_cast10, vv_cast11, vv_line0, vv_line1, vv_line2, vv_line3, vv_line4, vv_line5, vv_line6, vv_line7, vv_line8, vv_isl, vv_isl1, vv_lenl, vv_lenl1, vv_tupl, vv_tupl1, vv_items_l, vv_items_l1, vv_lst_f, vv_lst_l, vv_lst_l1, vv_app, vv_app1, vv_pop0, vv_pop01, vv_ins0, vv_ins01, vv_mull, vv_mull0, vv_mull1, vv_addl, vv_addl1, vv_slf, vv_slt, List.getElem?_cons_zero, List.getElem?_cons_succ, List.set_cons_zero, List.set_cons_succ, List.map_cons, List.map_nil, List.length_cons, List.length_nil, List.replicate_succ, List.replicate_zero, List.cons_append, List.nil_append, List.append_nil, Option.map_some, Option.map_none, Option.bind_some, Nat.reduceSub, Nat.reduceAdd, Nat.reduceMul, Nat.reduceLeDiff, Nat.zero_le, Int.reduceLT, Int.reduceLE, Int.reduceNeg, Int.reduceAdd, Int.reduceEq, Int.reduceMul, Int.reduceSub, eq_self, Bool.not_true, Bool.not_false, Bool.and_true, Bool.true_and, Bool.and_false, Bool.false_and, Bool.or_true, Bool.true_or, Bool.or_false, Bool.false_or, decide_true, decide_false, if_true, if_false, ite_true, ite_false, Bool.false_eq_true, and_true, true_and, and_false, false_and, not_true_eq_false, not_false_eq_true]
theorem law_log_text_ok {xs : List (Int × Int)} (h : ∀ x ∈ xs, okP x) (hl : xs.length ≤ 400) : run pr (k + 1) "_law_log_text" [.tup (xs.map encP)] s = .ok (.str (textOf wP xs)) s := by
  have hw : ∀ x ∈ xs, Wd (wP x) := fun x hx => wd_P (h x hx)
  have ne := tup_ne (s := s) (enc := encP) (encD := dP) (xs := xs) fun x hx => toD_P (n := 27)
  refine run_pure pr__law_log_text rfl ?_
  unfold b__law_log_text
  by_cases he : xs = []
  · subst he
    simp only [List.map_nil, List.isEmpty_nil] at ne
    simp only [ne, textOf, List.isEmpty_nil, ev_var, ev_var1, ev_c, ev_vout, ev_bin, ev_bin1, ev_bin2, ev_un, ev_un1, ev_lnil, ev_lcons, ev_lcons1, ev_lcons2, ev_ldef, ev_ldef1, ev_lstar, ev_lstar1, ev_lstar1b, ev_lstar2, ev_tup, ev_tup1, ev_lst, ev_lst1, ev_lchk, ev_lchk1, ev_call, ev_call1, ev_g, ev_b, ev_b1, ev_tmp, ev_tmp1, ev_comp, ev_comp1, ev_if, ev_if1t, ev_if1f, ev_bt, ev_bt1, ev_bt2, ev_bv, ev_bv1, ev_bnot, ev_bnot1, ev_band, ev_band1t, ev_band1f, ev_bor, ev_bor1t, ev_bor1f, ev_byes, ev_eand, ev_eand1, ev_eand2t, ev_eand2f, ev_eor, ev_eor1, ev_eor2t, ev_eor2f, ev_enot, ev_enot1, ev_enot2, ev_ch, ev_ch1, ev_ch2, ev_ch3t, ev_ch3f, ev_ch4, ev_m, ev_m1, ev_m2, ev_m3, ev_jo, ev_jo1, ev_jo2, ev_fs, ev_jfn, ev_jfc, ev_jf1, ev_dct, ev_kvn, ev_kvc, ev_kv1, ev_kv2, ev_kv3, ev_dct1, ev_pn, ev_ps, ev_ps1, ev_sl, ev_sl1, ev_sl2, ev_sl3, ev_snil, ev_seq, ev_seqn, ev_seqr, ev_seqb, ev_seqc, ev_seqx, ev_sex, ev_sex1, ev_ret, ev_ret1, ev_retn, ev_sif, ev_sif1t, ev_sif1f, ev_brk, ev_cnt, ev_asg, ev_asg1, ev_gnm, ev_gnil, ev_gcons, ev_gcons1, ev_gtp, ev_gst, ev_gst1, ev_gsub, ev_gsub1, ev_gsub2, ev_gsub3, ev_par, ev_par1, ev_par3, ev_par31, ev_aug, ev_aug1, ev_aug2, ev_aug3, ev_for, ev_for1, ev_lcomp, ev_lcomp1, ev_wipn, ev_wipc, ev_iseq, ev_iseq1, ev_seqt, ev_seqf, ev_seqs, ev_seql, ev_seql1, ev_rg1, ev_rg11, ev_rg2, ev_rg21, ev_en, ev_en1, ev_en2, ev_outr, ev_outn, ev_outx, ev_ixi, ev_ixk, ev_ixl, ev_ixll, ev_ixld, ev_ixkk, ev_ix1, ev_ixt, ev_ixf, vv_oAdd, vv_oAddI, vv_oSub, vv_oLt, vv_oLe, vv_oGt, vv_oGe, vv_oEq, vv_oNe, vv_eqs, vv_nes, vv_eqns, vv_isn, vv_notn, vv_in_non, vv_in_bl, vv_in_int, vv_in_str, vv_in_tup, vv_in_frz, vv_in_loc, vv_neg, vv_tb, vv_ti, vv_tn, vv_tt, vv_tf, vv_mul, vv_div, vv_mod, vv_pow7, vv_pow8, vv_pow9, vv_pow18, vv_pow12, vv_pow6, vv_pow5, vv_pow4, vv_pow10, vv_pow16, vv_abs, vv_min, vv_max, vv_inti, vv_intb, vv_stri, vv_strs, vv_lent, vv_lenf, vv_lens, vv_htup, vv_hlen, vv_is_non_bool, vv_is_non_int, vv_is_non_str, vv_is_non_tuple, vv_is_bl_bool, vv_is_bl_int, vv_is_bl_str, vv_is_bl_tuple, vv_is_int_bool, vv_is_int_int, vv_is_int_str, vv_is_int_tuple, vv_is_str_bool, vv_is_str_int, vv_is_str_str, vv_is_str_tuple, vv_is_tup_bool, vv_is_tup_int, vv_is_tup_str, vv_is_tup_tuple, vv_is_frz_bool, vv_is_frz_int, vv_is_frz_str, vv_is_frz_tuple, vv_iss, vv_items_t, vv_items_f, vv_spl, vv_fmts, vv_fmti, vv_cats, vv_cast0, vv_cast1, vv_cast2, vv_cast3, vv_cast4, vv_cast5, vv_cast6, vv_cast7, vv_cast8, vv_cast9, vv_cast10, vv_cast11, vv_line0, vv_line1, vv_line2, vv_line3, vv_line4, vv_line5, vv_line6, vv_line7, vv_line8, vv_isl, vv_isl1, vv_lenl, vv_lenl1, vv_tupl, vv_tupl1, vv_items_l, vv_items_l1, vv_lst_f, vv_lst_l, vv_lst_l1, vv_app, vv_app1, vv_pop0, vv_pop01, vv_ins0, vv_ins01, vv_mull, vv_mull0, vv_mull1, vv_addl, vv_addl1, vv_slf, vv_slt, List.getElem?_cons_zero, List.getElem?_cons_succ, List.set_cons_zero, List.set_cons_succ, List.map_cons, List.map_nil, List.length_cons, List.length_nil, List.replicate_succ, List.replicate_zero, List.cons_append, List.nil_append, List.append_nil, Option.map_some, Option.map_none, Option.bind_some, Nat.reduceSub, Nat.reduceAdd, Nat.reduceMul, Nat.reduceLeDiff, Nat.zero_le, Int.reduceLT, Int.reduceLE, Int.reduceNeg, Int.reduceAdd, Int.reduceEq, Int.reduceMul, Int.reduceSub, eq_self, Bool.not_true, Bool.not_false, Bool.and_true, Bool.true_and, Bool.and_false, Bool.false_and, Bool.or_true, Bool.true_or, Bool.or_false, Bool.false_or, decide_true, decide_false, if_true, if_false, ite_true, ite_false, Bool.false_eq_true, and_true, true_and, and_false, false_and, not_true_eq_false, not_false_eq_true]
  · rw [isE he] at ne
    have c1 : compL chkT (gTp 2 (gsCons (gNm 1) (gsCons (gNm 2) gsNil))) bYes (eBin oAdd (eBin oAdd (eB fStr (lCons (eVar 1) lNil)) (eC (.str "-"))) (eB fStr (lCons (eVar 2) lNil))) [some (.tup (xs.map encP)), none, none] (xs.map encP) [] s = .ok ([] ++ xs.map fun x => T.str (wP x)) s :=
      compL_map rfl xs [] (fun x hx => ⟨[some (.tup (xs.map encP)), some (.int x.1), some (.int x.2)], by simp only [encP, ev_var, ev_var1, ev_c, ev_vout, ev_bin, ev_bin1, ev_bin2, ev_un, ev_un1, ev_lnil, ev_lcons, ev_lcons1, ev_lcons2, ev_ldef, ev_ldef1, ev_lstar, ev_lstar1, ev_lstar1b, ev_lstar2, ev_tup, ev_tup1, ev_lst, ev_lst1, ev_lchk, ev_lchk1, ev_call, ev_call1, ev_g, ev_b, ev_b1, ev_tmp, ev_tmp1, ev_comp, ev_comp1, ev_if, ev_if1t, ev_if1f, ev_bt, ev_bt1, ev_bt2, ev_bv, ev_bv1, ev_bnot, ev_bnot1, ev_band, ev_band1t, ev_band1f, ev_bor, ev_bor1t, ev_bor1f, ev_byes, ev_eand, ev_eand1, ev_eand2t, ev_eand2f, ev_eor, ev_eor1, ev_eor2t, ev_eor2f, ev_enot, ev_enot1, ev_enot2, ev_ch, ev_ch1, ev_ch2, ev_ch3t, ev_ch3f, ev_ch4, ev_m, ev_m1, ev_m2, ev_m3, ev_jo, ev_jo1, ev_jo2, ev_fs, ev_jfn, ev_jfc, ev_jf1, ev_dct, ev_kvn, ev_kvc, ev_kv1, ev_kv2, ev_kv3, ev_dct1, ev_pn, ev_ps, ev_ps1, ev_sl, ev_sl1, ev_sl2, ev_sl3, ev_snil, ev_seq, ev_seqn, ev_seqr, ev_seqb, ev_seqc, ev_seqx, ev_sex, ev_sex1, ev_ret, ev_ret1, ev_retn, ev_sif, ev_sif1t, ev_sif1f, ev_brk, ev_cnt, ev_asg, ev_asg1, ev_gnm, ev_gnil, ev_gcons, ev_gcons1, ev_gtp, ev_gst, ev_gst1, ev_gsub, ev_gsub1, ev_gsub2, ev_gsub3, ev_par, ev_par1, ev_par3, ev_par31, ev_aug, ev_aug1, ev_aug2, ev_aug3, ev_for, ev_for1, ev_lcomp, ev_lcomp1, ev_wipn, ev_wipc, ev_iseq, ev_iseq1, ev_seqt, ev_seqf, ev_seqs, ev_seql, ev_seql1, ev_rg1, ev_rg11, ev_rg2, ev_rg21, ev_en, ev_en1, ev_en2, ev_outr, ev_outn, ev_outx, ev_ixi, ev_ixk, ev_ixl, ev_ixll, ev_ixld, ev_ixkk, ev_ix1, ev_ixt, ev_ixf, vv_oAdd, vv_oAddI, vv_oSub, vv_oLt, vv_oLe, vv_oGt, vv_oGe, vv_oEq, vv_oNe, vv_eqs, vv_nes, vv_eqns, vv_isn, vv_notn, vv_in_non, vv_in_bl, vv_in_int, vv_in_str, vv_in_tup, vv_in_frz, vv_in_loc, vv_neg, vv_tb, vv_ti, vv_tn, vv_tt, vv_tf, vv_mul, vv_div, vv_mod, vv_pow7, vv_pow8, vv_pow9, vv_pow18, vv_pow12, vv_pow6, vv_pow5, vv_pow4, vv_pow10, vv_pow16, vv_abs, vv_min, vv_max, vv_inti, vv_intb, vv_stri, vv_strs, vv_lent, vv_lenf, vv_lens, vv_htup, vv_hlen, vv_is_non_bool, vv_is_non_int, vv_is_non_str, vv_is_non_tuple, vv_is_bl_bool, vv_is_bl_int, vv_is_bl_str, vv_is_bl_tuple, vv_is_int_bool, vv_is_int_int, vv_is_int_str, vv_is_int_tuple, vv_is_str_bool, vv_is_str_int, vv_is_str_str, vv_is_str_tuple, vv_is_tup_bool, vv_is_tup_int, vv_is_tup_str, vv_is_tup_tuple, vv_is_frz_bool, vv_is_frz_int, vv_is_frz_str, vv_is_frz_tuple, vv_iss, vv_items_t, vv_items_f, vv_spl, vv_fmts, vv_fmti, vv_cats, vv_cast0, vv_cast1, vv_cast2, vv_cast3, vv_cast4, vv_cast5, vv_cast6, vv_cast7, vv_cast8, vv_cast9, vv_cast10, vv_cast11, vv_line0, vv_line1, vv_line2, vv_line3, vv_line4, vv_line5, vv_line6, vv_line7, vv_line8, vv_isl, vv_isl1, vv_lenl, vv_lenl1, vv_tupl, vv_tupl1, vv_items_l, vv_items_l1, vv_lst_f, vv_lst_l, vv_lst_l1, vv_app, vv_app1, vv_pop0, vv_pop01, vv_ins0, vv_ins01, vv_mull, vv_mull0, vv_mull1, vv_addl, vv_addl1, vv_slf, vv_slt, List.getElem?_cons_zero, List.getElem?_cons_succ, List.set_cons_zero, List.set_cons_succ, List.map_cons, List.map_nil, List.length_cons, List.length_nil, List.replicate_succ, List.replicate_zero, List.cons_append, List.nil_append, List.append_nil, Option.map_some, Option.map_none, Option.bind_some, Nat.reduceSub, Nat.reduceAdd, Nat.reduceMul, Nat.reduceLeDiff, Nat.zero_le, Int.reduceLT, Int.reduceLE, Int.reduceNeg, Int.reduceAdd, Int.reduceEq, Int.reduceMul, Int.reduceSub, eq_self, Bool.not_true, Bool.not_false, Bool.and_true, Bool.true_and, Bool.and_false, Bool.false_and, Bool.or_true, Bool.true_or, Bool.or_false, Bool.false_or, decide_true, decide_false, if_true, if_false, ite_true, ite_false, Bool.false_eq_true, and_true, true_and, and_false, false_and, not_true_eq_false, not_false_eq_true], by
        obtain ⟨h1, h2, h3⟩ := h x hx
        have hk := num_len (i := x.1) (by omega) (by omega)
        have hn := num_len (i := x.2) (by omega) (by omega)
        have hi := okNs (i := x.1) (by omega) (by omega)
        have hj := okNs (i := x.2) (by omega) (by omega)
        have z2 : (num x.1).length + ("-" : Str).length ≤ sizeLine := by rw [sizeLine_eq, one_lens.2.1]; omega
        have z3 : (num x.1 ++ "-").length + (num x.2).length ≤ sizeLine := by rw [sizeLine_eq, len_app, one_lens.2.1]; omega
        simp only [hi, hj, z2, z3, ev_var, ev_var1, ev_c, ev_vout, ev_bin, ev_bin1, ev_bin2, ev_un, ev_un1, ev_lnil, ev_lcons, ev_lcons1, ev_lcons2, ev_ldef, ev_ldef1, ev_lstar, ev_lstar1, ev_lstar1b, ev_lstar2, ev_tup, ev_tup1, ev_lst, ev_lst1, ev_lchk, ev_lchk1, ev_call, ev_call1, ev_g, ev_b, ev_b1, ev_tmp, ev_tmp1, ev_comp, ev_comp1, ev_if, ev_if1t, ev_if1f, ev_bt, ev_bt1, ev_bt2, ev_bv, ev_bv1, ev_bnot, ev_bnot1, ev_band, ev_band1t, ev_band1f, ev_bor, ev_bor1t, ev_bor1f, ev_byes, ev_eand, ev_eand1, ev_eand2t, ev_eand2f, ev_eor, ev_eor1, ev_eor2t, ev_eor2f, ev_enot, ev_enot1, ev_enot2, ev_ch, ev_ch1, ev_ch2, ev_ch3t, ev_ch3f, ev_ch4, ev_m, ev_m1, ev_m2, ev_m3, ev_jo, ev_jo1, ev_jo2, ev_fs, ev_jfn, ev_jfc, ev_jf1, ev_dct, ev_kvn, ev_kvc, ev_kv1, ev_kv2, ev_kv3, ev_dct1, ev_pn, ev_ps, ev_ps1, ev_sl, ev_sl1, ev_sl2, ev_sl3, ev_snil, ev_seq, ev_seqn, ev_seqr, ev_seqb, ev_seqc, ev_seqx, ev_sex, ev_sex1, ev_ret, ev_ret1, ev_retn, ev_sif, ev_sif1t, ev_sif1f, ev_brk, ev_cnt, ev_asg, ev_asg1, ev_gnm, ev_gnil, ev_gcons, ev_gcons1, ev_gtp, ev_gst, ev_gst1, ev_gsub, ev_gsub1, ev_gsub2, ev_gsub3, ev_par, ev_par1, ev_par3, ev_par31, ev_aug, ev_aug1, ev_aug2, ev_aug3, ev_for, ev_for1, ev_lcomp, ev_lcomp1, ev_wipn, ev_wipc, ev_iseq, ev_iseq1, ev_seqt, ev_seqf, ev_seqs, ev_seql, ev_seql1, ev_rg1, ev_rg11, ev_rg2, ev_rg21, ev_en, ev_en1, ev_en2, ev_outr, ev_outn, ev_outx, ev_ixi, ev_ixk, ev_ixl, ev_ixll, ev_ixld, ev_ixkk, ev_ix1, ev_ixt, ev_ixf, vv_oAdd, vv_oAddI, vv_oSub, vv_oLt, vv_oLe, vv_oGt, vv_oGe, vv_oEq, vv_oNe, vv_eqs, vv_nes, vv_eqns, vv_isn, vv_notn, vv_in_non, vv_in_bl, vv_in_int, vv_in_str, vv_in_tup, vv_in_frz, vv_in_loc, vv_neg, vv_tb, vv_ti, vv_tn, vv_tt, vv_tf, vv_mul, vv_div, vv_mod, vv_pow7, vv_pow8, vv_pow9, vv_pow18, vv_pow12, vv_pow6, vv_pow5, vv_pow4, vv_pow10, vv_pow16, vv_abs, vv_min, vv_max, vv_inti, vv_intb, vv_stri, vv_strs, vv_lent, vv_lenf, vv_lens, vv_htup, vv_hlen, vv_is_non_bool, vv_is_non_int, vv_is_non_str, vv_is_non_tuple, vv_is_bl_bool, vv_is_bl_int, vv_is_bl_str, vv_is_bl_tuple, vv_is_int_bool, vv_is_int_int, vv_is_int_str, vv_is_int_tuple, vv_is_str_bool, vv_is_str_int, vv_is_str_str, vv_is_str_tuple, vv_is_tup_bool, vv_is_tup_int, vv_is_tup_str, vv_is_tup_tuple, vv_is_frz_bool, vv_is_frz_int, vv_is_frz_str, vv_is_frz_tuple, vv_iss, vv_items_t, vv_items_f, vv_spl, vv_fmts, vv_fmti, vv_cats, vv_cast0, vv_cast1, vv_cast2, vv_cast3, vv_cast4, vv_cast5, vv_cast6, vv_cast7, vv_cast8, vv_cast9, vv_cast10, vv_cast11, vv_line0, vv_line1, vv_line2, vv_line3, vv_line4, vv_line5, vv_line6, vv_line7, vv_line8, vv_isl, vv_isl1, vv_lenl, vv_lenl1, vv_tupl, vv_tupl1, vv_items_l, vv_items_l1, vv_lst_f, vv_lst_l, vv_lst_l1, vv_app, vv_app1, vv_pop0, vv_pop01, vv_ins0, vv_ins01, vv_mull, vv_mull0, vv_mull1, vv_addl, vv_addl1, vv_slf, vv_slt, List.getElem?_cons_zero, List.getElem?_cons_succ, List.set_cons_zero, List.set_cons_succ, List.map_cons, List.map_nil, List.length_cons, List.length_nil, List.replicate_succ, List.replicate_zero, List.cons_append, List.nil_append, List.append_nil, Option.map_some, Option.map_none, Option.bind_some, Nat.reduceSub, Nat.reduceAdd, Nat.reduceMul, Nat.reduceLeDiff, Nat.zero_le, Int.reduceLT, Int.reduceLE, Int.reduceNeg, Int.reduceAdd, Int.reduceEq, Int.reduceMul, Int.reduceSub, eq_self, Bool.not_true, Bool.not_false, Bool.and_true, Bool.true_and, Bool.and_false, Bool.false_and, Bool.or_true, Bool.true_or, Bool.or_false, Bool.false_or, decide_true, decide_false, if_true, if_false, ite_true, ite_false, Bool.false_eq_true, and_true, true_and, and_false, false_and, not_true_eq_false, not_false_eq_true]
        rfl⟩) (by simp [sizeLine_eq]; omega)
    have e2 : (xs.map fun x => T.str (wP x)) = strTs (xs.map wP) := by simp [strTs]
    rw [e2] at c1
    simp only [List.nil_append] at c1
    have j := joinT_at (s := s) (ps := xs.map wP) (fun p hp => by obtain ⟨x, hx, rfl⟩ := List.mem_map.mp hp; exact (hw x hx).ln) (by rw [List.length_map]; exact hl)
    rw [textE he]
    simp only [ne, c1, j, ev_var, ev_var1, ev_c, ev_vout, ev_bin, ev_bin1, ev_bin2, ev_un, ev_un1, ev_lnil, ev_lcons, ev_lcons1, ev_lcons2, ev_ldef, ev_ldef1, ev_lstar, ev_lstar1, ev_lstar1b, ev_lstar2, ev_tup, ev_tup1, ev_lst, ev_lst1, ev_lchk, ev_lchk1, ev_call, ev_call1, ev_g, ev_b, ev_b1, ev_tmp, ev_tmp1, ev_comp, ev_comp1, ev_if, ev_if1t, ev_if1f, ev_bt, ev_bt1, ev_bt2, ev_bv, ev_bv1, ev_bnot, ev_bnot1, ev_band, ev_band1t, ev_band1f, ev_bor, ev_bor1t, ev_bor1f, ev_byes, ev_eand, ev_eand1, ev_eand2t, ev_eand2f, ev_eor, ev_eor1, ev_eor2t, ev_eor2f, ev_enot, ev_enot1, ev_enot2, ev_ch, ev_ch1, ev_ch2, ev_ch3t, ev_ch3f, ev_ch4, ev_m, ev_m1, ev_m2, ev_m3, ev_jo, ev_jo1, ev_jo2, ev_fs, ev_jfn, ev_jfc, ev_jf1, ev_dct, ev_kvn, ev_kvc, ev_kv1, ev_kv2, ev_kv3, ev_dct1, ev_pn, ev_ps, ev_ps1, ev_sl, ev_sl1, ev_sl2, ev_sl3, ev_snil, ev_seq, ev_seqn, ev_seqr, ev_seqb, ev_seqc, ev_seqx, ev_sex, ev_sex1, ev_ret, ev_ret1, ev_retn, ev_sif, ev_sif1t, ev_sif1f, ev_brk, ev_cnt, ev_asg, ev_asg1, ev_gnm, ev_gnil, ev_gcons, ev_gcons1, ev_gtp, ev_gst, ev_gst1, ev_gsub, ev_gsub1, ev_gsub2, ev_gsub3, ev_par, ev_par1, ev_par3, ev_par31, ev_aug, ev_aug1, ev_aug2, ev_aug3, ev_for, ev_for1, ev_lcomp, ev_lcomp1, ev_wipn, ev_wipc, ev_iseq, ev_iseq1, ev_seqt, ev_seqf, ev_seqs, ev_seql, ev_seql1, ev_rg1, ev_rg11, ev_rg2, ev_rg21, ev_en, ev_en1, ev_en2, ev_outr, ev_outn, ev_outx, ev_ixi, ev_ixk, ev_ixl, ev_ixll, ev_ixld, ev_ixkk, ev_ix1, ev_ixt, ev_ixf, vv_oAdd, vv_oAddI, vv_oSub, vv_oLt, vv_oLe, vv_oGt, vv_oGe, vv_oEq, vv_oNe, vv_eqs, vv_nes, vv_eqns, vv_isn, vv_notn, vv_in_non, vv_in_bl, vv_in_int, vv_in_str, vv_in_tup, vv_in_frz, vv_in_loc, vv_neg, vv_tb, vv_ti, vv_tn, vv_tt, vv_tf, vv_mul, vv_div, vv_mod, vv_pow7, vv_pow8, vv_pow9, vv_pow18, vv_pow12, vv_pow6, vv_pow5, vv_pow4, vv_pow10, vv_pow16, vv_abs, vv_min, vv_max, vv_inti, vv_intb, vv_stri, vv_strs, vv_lent, vv_lenf, vv_lens, vv_htup, vv_hlen, vv_is_non_bool, vv_is_non_int, vv_is_non_str, vv_is_non_tuple, vv_is_bl_bool, vv_is_bl_int, vv_is_bl_str, vv_is_bl_tuple, vv_is_int_bool, vv_is_int_int, vv_is_int_str, vv_is_int_tuple, vv_is_str_bool, vv_is_str_int, vv_is_str_str, vv_is_str_tuple, vv_is_tup_bool, vv_is_tup_int, vv_is_tup_str, vv_is_tup_tuple, vv_is_frz_bool, vv_is_frz_int, vv_is_frz_str, vv_is_frz_tuple, vv_iss, vv_items_t, vv_items_f, vv_spl, vv_fmts, vv_fmti, vv_cats, vv_cast0, vv_cast1, vv_cast2, vv_cast3, vv_cast4, vv_cast5, vv_cast6, vv_cast7, vv_cast8, vv_cast9, vv_cast10, vv_cast11, vv_line0, vv_line1, vv_line2, vv_line3, vv_line4, vv_line5, vv_line6, vv_line7, vv_line8, vv_isl, vv_isl1, vv_lenl, vv_lenl1, vv_tupl, vv_tupl1, vv_items_l, vv_items_l1, vv_lst_f, vv_lst_l, vv_lst_l1, vv_app, vv_app1, vv_pop0, vv_pop01, vv_ins0, vv_ins01, vv_mull, vv_mull0, vv_mull1, vv_addl, vv_addl1, vv_slf, vv_slt, List.getElem?_cons_zero, List.getElem?_cons_succ, List.set_cons_zero, List.set_cons_succ, List.map_cons, List.map_nil, List.length_cons, List.length_nil, List.replicate_succ, List.replicate_zero, List.cons_append, List.nil_append, List.append_nil, Option.map_some, Option.map_none, Option.bind_some, Nat.reduceSub, Nat.reduceAdd, Nat.reduceMul, Nat.reduceLeDiff, Nat.zero_le, Int.reduceLT, Int.reduceLE, Int.reduceNeg, Int.reduceAdd, Int.reduceEq, Int.reduceMul, Int.reduceSub, eq_self, Bool.not_true, Bool.not_false, Bool.and_true, Bool.true_and, Bool.and_false, Bool.false_and, Bool.or_true, Bool.true_or, Bool.or_false, Bool.false_or, decide_true, decide_false, if_true, if_false, ite_true, ite_false, Bool.false_eq_true, and_true, true_and, and_false, false_and, not_true_eq_false, not_false_eq_true]
theorem app_empty (x : Str) : x ++ ("" : Str) = x := by
  apply TL.ext_tl
  rw [tl_app]
  simp [TL.tl]
  rfl
theorem law_runs_text_ok {xs : List (Int × Int × Int)} (h : ∀ x ∈ xs, okR' x) (hl : xs.length ≤ 400) : run pr (k + 1) "_law_runs_text" [.tup (xs.map encR)] s = .ok (.str (textOf wR xs)) s := by
  have hw : ∀ x ∈ xs, Wd (wR x) := fun x hx => wd_R (h x hx)
  let s1 := s.add (.lst [])
  have q1 : s.add (.lst []) = s1 := rfl
  have f0 : s1.get s.len = some (.lst []) := get_add
  let I : Nat → Fx.Env → Sto → Prop := fun i r s' => (∃ a b c, r = [some (.tup (xs.map encR)), some (.loc s.len), a, b, c]) ∧ s'.get s.len = some (.lst ((xs.take i).map fun x => T.str (wR x))) ∧ Gro s s'
  obtain ⟨r', s', e2, ⟨a, b, c, rfl⟩, f2, f3⟩ := forL_inv (I := I) (chk := chkT) (g := gTp 3 (gsCons (gNm 2) (gsCons (gNm 3) (gsCons (gNm 4) gsNil))))
    (b := sEx (eM "list" mAppend (eVar 1) (lCons (eBin oAdd (eB fStr (lCons (eVar 2) lNil)) (eIf (bV (eBin oGt (eVar 4) (eC (.int 1)))) (eBin oAdd (eBin oAdd (eBin oAdd (eC (.str "+")) (eB fStr (lCons (eVar 3) lNil))) (eC (.str "x"))) (eB fStr (lCons (eVar 4) lNil))) (eC (.str "")))) lNil)))
    (ts := xs.map encR) (r := [some (.tup (xs.map encR)), some (.loc s.len), none, none, none]) (s := s1)
    (fun _ _ _ _ => rfl)
    (fun i t r s' ht hIv => by
      obtain ⟨⟨a, b, c, rfl⟩, f, fg⟩ := hIv
      cases ex : xs[i]? with
      | none => simp [ex] at ht
      | some x =>
        simp [ex] at ht
        subst ht
        have hx : x ∈ xs := List.mem_of_getElem? ex
        have hi : i < xs.length := (List.getElem?_eq_some_iff.mp ex).1
        have hxx := h x hx
        have hc := okR_cnt hxx
        obtain ⟨h1, h2, h3, h4, h5, h6⟩ := hxx
        have n1 := num_len (i := x.1) (by omega) (by omega)
        have n2 := num_len (i := x.2.1) (by omega) (by omega)
        have n3 := num_len (i := x.2.2) (by omega) (by omega)
        have o1 := okNs (i := x.1) (by omega) (by omega)
        have o2 := okNs (i := x.2.1) (by omega) (by omega)
        have o3 := okNs (i := x.2.2) (by omega) (by omega)
        have p1 := one_lens.2.2.1
        have p2 := one_lens.2.2.2.1
        have hz : ((xs.take i).map fun x => T.str (wR x)).length < sizeLine := by rw [List.length_map, List.length_take, sizeLine_eq]; omega
        have exx : xs[i] = x := by
          have := List.getElem?_eq_getElem hi
          rw [ex] at this; exact (Option.some.inj this).symm
        have et : ((xs.take i).map fun x => T.str (wR x)) ++ [T.str (wR x)] = (xs.take (i + 1)).map fun x => T.str (wR x) := by
          rw [List.take_succ_eq_append_getElem hi, List.map_append, exx]; rfl
        have hh : O.hi (.lst (((xs.take i).map fun x => T.str (wR x)) ++ [T.str (wR x)])) ≤ s.len := by
          rw [et, enc_hi fun _ => rfl]; exact Nat.zero_le _
        refine ⟨[some (.tup (xs.map encR)), some (.loc s.len), some (.int x.1), some (.int x.2.1), some (.int x.2.2)], s', [some (.tup (xs.map encR)), some (.loc s.len), some (.int x.1), some (.int x.2.1), some (.int x.2.2)], s'.put s.len (.lst (((xs.take i).map fun x => T.str (wR x)) ++ [T.str (wR x)])), by simp only [encR, ev_var, ev_var1, ev_c, ev_vout, ev_bin, ev_bin1, ev_bin2, ev_un, ev_un1, ev_lnil, ev_lcons, ev_lcons1, ev_lcons2, ev_ldef, ev_ldef1, ev_lstar, ev_lstar1, ev_lstar1b, ev_lstar2, ev_tup, ev_tup1, ev_lst, ev_lst1, ev_lchk, ev_lchk1, ev_call, ev_call1, ev_g, ev_b, ev_b1, ev_tmp, ev_tmp1, ev_comp, ev_comp1, ev_if, ev_if1t, ev_if1f, ev_bt, ev_bt1, ev_bt2, ev_bv, ev_bv1, ev_bnot, ev_bnot1, ev_band, ev_band1t, ev_band1f, ev_bor, ev_bor1t, ev_bor1f, ev_byes, ev_eand, ev_eand1, ev_eand2t, ev_eand2f, ev_eor, ev_eor1, ev_eor2t, ev_eor2f, ev_enot, ev_enot1, ev_enot2, ev_ch, ev_ch1, ev_ch2, ev_ch3t, ev_ch3f, ev_ch4, ev_m, ev_m1, ev_m2, ev_m3, ev_jo, ev_jo1, ev_jo2, ev_fs, ev_jfn, ev_jfc, ev_jf1, ev_dct, ev_kvn, ev_kvc, ev_kv1, ev_kv2, ev_kv3, ev_dct1, ev_pn, ev_ps, ev_ps1, ev_sl, ev_sl1, ev_sl2, ev_sl3, ev_snil, ev_seq, ev_seqn, ev_seqr, ev_seqb, ev_seqc, ev_seqx, ev_sex, ev_sex1, ev_ret, ev_ret1, ev_retn, ev_sif, ev_sif1t, ev_sif1f, ev_brk, ev_cnt, ev_asg, ev_asg1, ev_gnm, ev_gnil, ev_gcons, ev_gcons1, ev_gtp, ev_gst, ev_gst1, ev_gsub, ev_gsub1, ev_gsub2, ev_gsub3, ev_par, ev_par1, ev_par3, ev_par31, ev_aug, ev_aug1, ev_aug2, ev_aug3, ev_for, ev_for1, ev_lcomp, ev_lcomp1, ev_wipn, ev_wipc, ev_iseq, ev_iseq1, ev_seqt, ev_seqf, ev_seqs, ev_seql, ev_seql1, ev_rg1, ev_rg11, ev_rg2, ev_rg21, ev_en, ev_en1, ev_en2, ev_outr, ev_outn, ev_outx, ev_ixi, ev_ixk, ev_ixl, ev_ixll, ev_ixld, ev_ixkk, ev_ix1, ev_ixt, ev_ixf, vv_oAdd, vv_oAddI, vv_oSub, vv_oLt, vv_oLe, vv_oGt, vv_oGe, vv_oEq, vv_oNe, vv_eqs, vv_nes, vv_eqns, vv_isn, vv_notn, vv_in_non, vv_in_bl, vv_in_int, vv_in_str, vv_in_tup, vv_in_frz, vv_in_loc, vv_neg, vv_tb, vv_ti, vv_tn, vv_tt, vv_tf, vv_mul, vv_div, vv_mod, vv_pow7, vv_pow8, vv_pow9, vv_pow18, vv_pow12, vv_pow6, vv_pow5, vv_pow4, vv_pow10, vv_pow16, vv_abs, vv_min, vv_max, vv_inti, vv_intb, vv_stri, vv_strs, vv_lent, vv_lenf, vv_lens, vv_htup, vv_hlen, vv_is_non_bool, vv_is_non_int, vv_is_non_str, vv_is_non_tuple, vv_is_bl_bool, vv_is_bl_int, vv_is_bl_str, vv_is_bl_tuple, vv_is_int_bool, vv_is_int_int, vv_is_int_str, vv_is_int_tuple, vv_is_str_bool, vv_is_str_int, vv_is_str_str, vv_is_str_tuple, vv_is_tup_bool, vv_is_tup_int, vv_is_tup_str, vv_is_tup_tuple, vv_is_frz_bool, vv_is_frz_int, vv_is_frz_str, vv_is_frz_tuple, vv_iss, vv_items_t, vv_items_f, vv_spl, vv_fmts, vv_fmti, vv_cats, vv_cast0, vv_cast1, vv_cast2, vv_cast3, vv_cast4, vv_cast5, vv_cast6, vv_cast7, vv_cast8, vv_cast9, vv_cast10, vv_cast11, vv_line0, vv_line1, vv_line2, vv_line3, vv_line4, vv_line5, vv_line6, vv_line7, vv_line8, vv_isl, vv_isl1, vv_lenl, vv_lenl1, vv_tupl, vv_tupl1, vv_items_l, vv_items_l1, vv_lst_f, vv_lst_l, vv_lst_l1, vv_app, vv_app1, vv_pop0, vv_pop01, vv_ins0, vv_ins01, vv_mull, vv_mull0, vv_mull1, vv_addl, vv_addl1, vv_slf, vv_slt, List.getElem?_cons_zero, List.getElem?_cons_succ, List.set_cons_zero, List.set_cons_succ, List.map_cons, List.map_nil, List.length_cons, List.length_nil, List.replicate_succ, List.replicate_zero, List.cons_append, List.nil_append, List.append_nil, Option.map_some, Option.map_none, Option.bind_some, Nat.reduceSub, Nat.reduceAdd, Nat.reduceMul, Nat.reduceLeDiff, Nat.zero_le, Int.reduceLT, Int.reduceLE, Int.reduceNeg, Int.reduceAdd, Int.reduceEq, Int.reduceMul, Int.reduceSub, eq_self, Bool.not_true, Bool.not_false, Bool.and_true, Bool.true_and, Bool.and_false, Bool.false_and, Bool.or_true, Bool.true_or, Bool.or_false, Bool.false_or, decide_true, decide_false, if_true, if_false, ite_true, ite_false, Bool.false_eq_true, and_true, true_and, and_false, false_and, not_true_eq_false, not_false_eq_true], ?_, ⟨_, _, _, rfl⟩, by rw [get_put (lt_of_get f), et], fg.put (Nat.le_refl _) hh⟩
        by_cases h7 : 1 < x.2.2
        · have z2 : ("+" : Str).length + (num x.2.1).length ≤ sizeLine := by rw [sizeLine_eq]; omega
          have z3 : ("+" ++ num x.2.1).length + ("x" : Str).length ≤ sizeLine := by rw [sizeLine_eq, len_app]; omega
          have z4 : ("+" ++ num x.2.1 ++ "x").length + (num x.2.2).length ≤ sizeLine := by rw [sizeLine_eq, len_app, len_app]; omega
          have z5 : (num x.1).length + ("+" ++ num x.2.1 ++ "x" ++ num x.2.2).length ≤ sizeLine := by rw [sizeLine_eq, len_app, len_app, len_app]; omega
          have ew : wR x = num x.1 ++ ("+" ++ num x.2.1 ++ "x" ++ num x.2.2) := by
            unfold wR
            rw [if_pos h7]
            simp only [str_assoc]
          rw [ew] at *
          simp only [h7, o1, o2, o3, z2, z3, z4, z5, f, hz, ev_var, ev_var1, ev_c, ev_vout, ev_bin, ev_bin1, ev_bin2, ev_un, ev_un1, ev_lnil, ev_lcons, ev_lcons1, ev_lcons2, ev_ldef, ev_ldef1, ev_lstar, ev_lstar1, ev_lstar1b, ev_lstar2, ev_tup, ev_tup1, ev_lst, ev_lst1, ev_lchk, ev_lchk1, ev_call, ev_call1, ev_g, ev_b, ev_b1, ev_tmp, ev_tmp1, ev_comp, ev_comp1, ev_if, ev_if1t, ev_if1f, ev_bt, ev_bt1, ev_bt2, ev_bv, ev_bv1, ev_bnot, ev_bnot1, ev_band, ev_band1t, ev_band1f, ev_bor, ev_bor1t, ev_bor1f, ev_byes, ev_eand, ev_eand1, ev_eand2t, ev_eand2f, ev_eor, ev_eor1, ev_eor2t, ev_eor2f, ev_enot, ev_enot1, ev_enot2, ev_ch, ev_ch1, ev_ch2, ev_ch3t, ev_ch3f, ev_ch4, ev_m, ev_m1, ev_m2, ev_m3, ev_jo, ev_jo1, ev_jo2, ev_fs, ev_jfn, ev_jfc, ev_jf1, ev_dct, ev_kvn, ev_kvc, ev_kv1, ev_kv2, ev_kv3, ev_dct1, ev_pn, ev_ps, ev_ps1, ev_sl, ev_sl1, ev_sl2, ev_sl3, ev_snil, ev_seq, ev_seqn, ev_seqr, ev_seqb, ev_seqc, ev_seqx, ev_sex, ev_sex1, ev_ret, ev_ret1, ev_retn, ev_sif, ev_sif1t, ev_sif1f, ev_brk, ev_cnt, ev_asg, ev_asg1, ev_gnm, ev_gnil, ev_gcons, ev_gcons1, ev_gtp, ev_gst, ev_gst1, ev_gsub, ev_gsub1, ev_gsub2, ev_gsub3, ev_par, ev_par1, ev_par3, ev_par31, ev_aug, ev_aug1, ev_aug2, ev_aug3, ev_for, ev_for1, ev_lcomp, ev_lcomp1, ev_wipn, ev_wipc, ev_iseq, ev_iseq1, ev_seqt, ev_seqf, ev_seqs, ev_seql, ev_seql1, ev_rg1, ev_rg11, ev_rg2, ev_rg21, ev_en, ev_en1, ev_en2, ev_outr, ev_outn, ev_outx, ev_ixi, ev_ixk, ev_ixl, ev_ixll, ev_ixld, ev_ixkk, ev_ix1, ev_ixt, ev_ixf, vv_oAdd, vv_oAddI, vv_oSub, vv_oLt, vv_oLe, vv_oGt, vv_oGe, vv_oEq, vv_oNe, vv_eqs, vv_nes, vv_eqns, vv_isn, vv_notn, vv_in_non, vv_in_bl, vv_in_int, vv_in_str, vv_in_tup, vv_in_frz, vv_in_loc, vv_neg, vv_tb, vv_ti, vv_tn, vv_tt, vv_tf, vv_mul, vv_div, vv_mod, vv_pow7, vv_pow8, vv_pow9, vv_pow18, vv_pow12, vv_pow6, vv_pow5, vv_pow4, vv_pow10, vv_pow16, vv_abs, vv_min, vv_max, vv_inti, vv_intb, vv_stri, vv_strs, vv_lent, vv_lenf, vv_lens, vv_htup, vv_hlen, vv_is_non_bool, vv_is_non_int, vv_is_non_str, vv_is_non_tuple, vv_is_bl_bool, vv_is_bl_int, vv_is_bl_str, vv_is_bl_tuple, vv_is_int_bool, vv_is_int_int, vv_is_int_str, vv_is_int_tuple, vv_is_str_bool, vv_is_str_int, vv_is_str_str, vv_is_str_tuple, vv_is_tup_bool, vv_is_tup_int, vv_is_tup_str, vv_is_tup_tuple, vv_is_frz_bool, vv_is_frz_int, vv_is_frz_str, vv_is_frz_tuple, vv_iss, vv_items_t, vv_items_f, vv_spl, vv_fmts, vv_fmti, vv_cats, vv_cast0, vv_cast1, vv_cast2, vv_cast3, vv_cast4, vv_cast5, vv_cast6, vv_cast7, vv_cast8, vv_cast9, vv_cast10, vv_cast11, vv_line0, vv_line1, vv_line2, vv_line3, vv_line4, vv_line5, vv_line6, vv_line7, vv_line8, vv_isl, vv_isl1, vv_lenl, vv_lenl1, vv_tupl, vv_tupl1, vv_items_l, vv_items_l1, vv_lst_f, vv_lst_l, vv_lst_l1, vv_app, vv_app1, vv_pop0, vv_pop01, vv_ins0, vv_ins01, vv_mull, vv_mull0, vv_mull1, vv_addl, vv_addl1, vv_slf, vv_slt, List.getElem?_cons_zero, List.getElem?_cons_succ, List.set_cons_zero, List.set_cons_succ, List.map_cons, List.map_nil, List.length_cons, List.length_nil, List.replicate_succ, List.replicate_zero, List.cons_append, List.nil_append, List.append_nil, Option.map_some, Option.map_none, Option.bind_some, Nat.reduceSub, Nat.reduceAdd, Nat.reduceMul, Nat.reduceLeDiff, Nat.zero_le, Int.reduceLT, Int.reduceLE, Int.reduceNeg, Int.reduceAdd, Int.reduceEq, Int.reduceMul, Int.reduceSub, eq_self, Bool.not_true, Bool.not_false, Bool.and_true, Bool.true_and, Bool.and_false, Bool.false_and, Bool.or_true, Bool.true_or, Bool.or_false, Bool.false_or, decide_true, decide_false, if_true, if_false, ite_true, ite_false, Bool.false_eq_true, and_true, true_and, and_false, false_and, not_true_eq_false, not_false_eq_true]
        · have ew : wR x = num x.1 := if_neg h7
          have z5 : (num x.1).length + ("" : Str).length ≤ sizeLine := by
            have : ("" : Str).length = 0 := by decide
            rw [sizeLine_eq]; omega
          rw [ew] at *
          simp only [h7, o1, z5, app_empty, f, hz, ev_var, ev_var1, ev_c, ev_vout, ev_bin, ev_bin1, ev_bin2, ev_un, ev_un1, ev_lnil, ev_lcons, ev_lcons1, ev_lcons2, ev_ldef, ev_ldef1, ev_lstar, ev_lstar1, ev_lstar1b, ev_lstar2, ev_tup, ev_tup1, ev_lst, ev_lst1, ev_lchk, ev_lchk1, ev_call, ev_call1, ev_g, ev_b, ev_b1, ev_tmp, ev_tmp1, ev_comp, ev_comp1, ev_if, ev_if1t, ev_if1f, ev_bt, ev_bt1, ev_bt2, ev_bv, ev_bv1, ev_bnot, ev_bnot1, ev_band, ev_band1t, ev_band1f, ev_bor, ev_bor1t, ev_bor1f, ev_byes, ev_eand, ev_eand1, ev_eand2t, ev_eand2f, ev_eor, ev_eor1, ev_eor2t, ev_eor2f, ev_enot, ev_enot1, ev_enot2, ev_ch, ev_ch1, ev_ch2, ev_ch3t, ev_ch3f, ev_ch4, ev_m, ev_m1, ev_m2, ev_m3, ev_jo, ev_jo1, ev_jo2, ev_fs, ev_jfn, ev_jfc, ev_jf1, ev_dct, ev_kvn, ev_kvc, ev_kv1, ev_kv2, ev_kv3, ev_dct1, ev_pn, ev_ps, ev_ps1, ev_sl, ev_sl1, ev_sl2, ev_sl3, ev_snil, ev_seq, ev_seqn, ev_seqr, ev_seqb, ev_seqc, ev_seqx, ev_sex, ev_sex1, ev_ret, ev_ret1, ev_retn, ev_sif, ev_sif1t, ev_sif1f, ev_brk, ev_cnt, ev_asg, ev_asg1, ev_gnm, ev_gnil, ev_gcons, ev_gcons1, ev_gtp, ev_gst, ev_gst1, ev_gsub, ev_gsub1, ev_gsub2, ev_gsub3, ev_par, ev_par1, ev_par3, ev_par31, ev_aug, ev_aug1, ev_aug2, ev_aug3, ev_for, ev_for1, ev_lcomp, ev_lcomp1, ev_wipn, ev_wipc, ev_iseq, ev_iseq1, ev_seqt, ev_seqf, ev_seqs, ev_seql, ev_seql1, ev_rg1, ev_rg11, ev_rg2, ev_rg21, ev_en, ev_en1, ev_en2, ev_outr, ev_outn, ev_outx, ev_ixi, ev_ixk, ev_ixl, ev_ixll, ev_ixld, ev_ixkk, ev_ix1, ev_ixt, ev_ixf, vv_oAdd, vv_oAddI, vv_oSub, vv_oLt, vv_oLe, vv_oGt, vv_oGe, vv_oEq, vv_oNe, vv_eqs, vv_nes, vv_eqns, vv_isn, vv_notn, vv_in_non, vv_in_bl, vv_in_int, vv_in_str, vv_in_tup, vv_in_frz, vv_in_loc, vv_neg, vv_tb, vv_ti, vv_tn, vv_tt, vv_tf, vv_mul, vv_div, vv_mod, vv_pow7, vv_pow8, vv_pow9, vv_pow18, vv_pow12, vv_pow6, vv_pow5, vv_pow4, vv_pow10, vv_pow16, vv_abs, vv_min, vv_max, vv_inti, vv_intb, vv_stri, vv_strs, vv_lent, vv_lenf, vv_lens, vv_htup, vv_hlen, vv_is_non_bool, vv_is_non_int, vv_is_non_str, vv_is_non_tuple, vv_is_bl_bool, vv_is_bl_int, vv_is_bl_str, vv_is_bl_tuple, vv_is_int_bool, vv_is_int_int, vv_is_int_str, vv_is_int_tuple, vv_is_str_bool, vv_is_str_int, vv_is_str_str, vv_is_str_tuple, vv_is_tup_bool, vv_is_tup_int, vv_is_tup_str, vv_is_tup_tuple, vv_is_frz_bool, vv_is_frz_int, vv_is_frz_str, vv_is_frz_tuple, vv_iss, vv_items_t, vv_items_f, vv_spl, vv_fmts, vv_fmti, vv_cats, vv_cast0, vv_cast1, vv_cast2, vv_cast3, vv_cast4, vv_cast5, vv_cast6, vv_cast7, vv_cast8, vv_cast9, vv_cast10, vv_cast11, vv_line0, vv_line1, vv_line2, vv_line3, vv_line4, vv_line5, vv_line6, vv_line7, vv_line8, vv_isl, vv_isl1, vv_lenl, vv_lenl1, vv_tupl, vv_tupl1, vv_items_l, vv_items_l1, vv_lst_f, vv_lst_l, vv_lst_l1, vv_app, vv_app1, vv_pop0, vv_pop01, vv_ins0, vv_ins01, vv_mull, vv_mull0, vv_mull1, vv_addl, vv_addl1, vv_slf, vv_slt, List.getElem?_cons_zero, List.getElem?_cons_succ, List.set_cons_zero, List.set_cons_succ, List.map_cons, List.map_nil, List.length_cons, List.length_nil, List.replicate_succ, List.replicate_zero, List.cons_append, List.nil_append, List.append_nil, Option.map_some, Option.map_none, Option.bind_some, Nat.reduceSub, Nat.reduceAdd, Nat.reduceMul, Nat.reduceLeDiff, Nat.zero_le, Int.reduceLT, Int.reduceLE, Int.reduceNeg, Int.reduceAdd, Int.reduceEq, Int.reduceMul, Int.reduceSub, eq_self, Bool.not_true, Bool.not_false, Bool.and_true, Bool.true_and, Bool.and_false, Bool.false_and, Bool.or_true, Bool.true_or, Bool.or_false, Bool.false_or, decide_true, decide_false, if_true, if_false, ite_true, ite_false, Bool.false_eq_true, and_true, true_and, and_false, false_and, not_true_eq_false, not_false_eq_true])
    ⟨⟨none, none, none, rfl⟩, f0, Gro.add⟩
  rw [List.length_map, List.take_length] at f2
  have e2' : (xs.map fun x => T.str (wR x)) = strTs (xs.map wR) := by simp [strTs]
  rw [e2'] at f2
  have ne := tup_ne (s := s') (enc := encR) (encD := dR) (xs := xs) fun x hx => toD_R (n := 27)
  have j := join_at f2 (fun p hp => by obtain ⟨x, hx, rfl⟩ := List.mem_map.mp hp; exact (hw x hx).ln) (by rw [List.length_map]; exact hl)
  refine run_gro pr__law_runs_text rfl ⟨s', ?_, f3⟩ (Nat.zero_le _)
  unfold b__law_runs_text
  by_cases he : xs = []
  · subst he
    simp only [List.map_nil, List.isEmpty_nil] at ne e2
    simp only [q1, e2, ne, textOf, List.isEmpty_nil, ev_var, ev_var1, ev_c, ev_vout, ev_bin, ev_bin1, ev_bin2, ev_un, ev_un1, ev_lnil, ev_lcons, ev_lcons1, ev_lcons2, ev_ldef, ev_ldef1, ev_lstar, ev_lstar1, ev_lstar1b, ev_lstar2, ev_tup, ev_tup1, ev_lst, ev_lst1, ev_lchk, ev_lchk1, ev_call, ev_call1, ev_g, ev_b, ev_b1, ev_tmp, ev_tmp1, ev_comp, ev_comp1, ev_if, ev_if1t, ev_if1f, ev_bt, ev_bt1, ev_bt2, ev_bv, ev_bv1, ev_bnot, ev_bnot1, ev_band, ev_band1t, ev_band1f, ev_bor, ev_bor1t, ev_bor1f, ev_byes, ev_eand, ev_eand1, ev_eand2t, ev_eand2f, ev_eor, ev_eor1, ev_eor2t, ev_eor2f, ev_enot, ev_enot1, ev_enot2, ev_ch, ev_ch1, ev_ch2, ev_ch3t, ev_ch3f, ev_ch4, ev_m, ev_m1, ev_m2, ev_m3, ev_jo, ev_jo1, ev_jo2, ev_fs, ev_jfn, ev_jfc, ev_jf1, ev_dct, ev_kvn, ev_kvc, ev_kv1, ev_kv2, ev_kv3, ev_dct1, ev_pn, ev_ps, ev_ps1, ev_sl, ev_sl1, ev_sl2, ev_sl3, ev_snil, ev_seq, ev_seqn, ev_seqr, ev_seqb, ev_seqc, ev_seqx, ev_sex, ev_sex1, ev_ret, ev_ret1, ev_retn, ev_sif, ev_sif1t, ev_sif1f, ev_brk, ev_cnt, ev_asg, ev_asg1, ev_gnm, ev_gnil, ev_gcons, ev_gcons1, ev_gtp, ev_gst, ev_gst1, ev_gsub, ev_gsub1, ev_gsub2, ev_gsub3, ev_par, ev_par1, ev_par3, ev_par31, ev_aug, ev_aug1, ev_aug2, ev_aug3, ev_for, ev_for1, ev_lcomp, ev_lcomp1, ev_wipn, ev_wipc, ev_iseq, ev_iseq1, ev_seqt, ev_seqf, ev_seqs, ev_seql, ev_seql1, ev_rg1, ev_rg11, ev_rg2, ev_rg21, ev_en, ev_en1, ev_en2, ev_outr, ev_outn, ev_outx, ev_ixi, ev_ixk, ev_ixl, ev_ixll, ev_ixld, ev_ixkk, ev_ix1, ev_ixt, ev_ixf, vv_oAdd, vv_oAddI, vv_oSub, vv_oLt, vv_oLe, vv_oGt, vv_oGe, vv_oEq, vv_oNe, vv_eqs, vv_nes, vv_eqns, vv_isn, vv_notn, vv_in_non, vv_in_bl, vv_in_int, vv_in_str, vv_in_tup, vv_in_frz, vv_in_loc, vv_neg, vv_tb, vv_ti, vv_tn, vv_tt, vv_tf, vv_mul, vv_div, vv_mod, vv_pow7, vv_pow8, vv_pow9, vv_pow18, vv_pow12, vv_pow6, vv_pow5, vv_pow4, vv_pow10, vv_pow16, vv_abs, vv_min, vv_max, vv_inti, vv_intb, vv_stri, vv_strs, vv_lent, vv_lenf, vv_lens, vv_htup, vv_hlen, vv_is_non_bool, vv_is_non_int, vv_is_non_str, vv_is_non_tuple, vv_is_bl_bool, vv_is_bl_int, vv_is_bl_str, vv_is_bl_tuple, vv_is_int_bool, vv_is_int_int, vv_is_int_str, vv_is_int_tuple, vv_is_str_bool, vv_is_str_int, vv_is_str_str, vv_is_str_tuple, vv_is_tup_bool, vv_is_tup_int, vv_is_tup_str, vv_is_tup_tuple, vv_is_frz_bool, vv_is_frz_int, vv_is_frz_str, vv_is_frz_tuple, vv_iss, vv_items_t, vv_items_f, vv_spl, vv_fmts, vv_fmti, vv_cats, vv_cast0, vv_cast1, vv_cast2, vv_cast3, vv_cast4, vv_cast5, vv_cast6, vv_cast7, vv_cast8, vv_cast9, vv_cast10, vv_cast11, vv_line0, vv_line1, vv_line2, vv_line3, vv_line4, vv_line5, vv_line6, vv_line7, vv_line8, vv_isl, vv_isl1, vv_lenl, vv_lenl1, vv_tupl, vv_tupl1, vv_items_l, vv_items_l1, vv_lst_f, vv_lst_l, vv_lst_l1, vv_app, vv_app1, vv_pop0, vv_pop01, vv_ins0, vv_ins01, vv_mull, vv_mull0, vv_mull1, vv_addl, vv_addl1, vv_slf, vv_slt, List.getElem?_cons_zero, List.getElem?_cons_succ, List.set_cons_zero, List.set_cons_succ, List.map_cons, List.map_nil, List.length_cons, List.length_nil, List.replicate_succ, List.replicate_zero, List.cons_append, List.nil_append, List.append_nil, Option.map_some, Option.map_none, Option.bind_some, Nat.reduceSub, Nat.reduceAdd, Nat.reduceMul, Nat.reduceLeDiff, Nat.zero_le, Int.reduceLT, Int.reduceLE, Int.reduceNeg, Int.reduceAdd, Int.reduceEq, Int.reduceMul, Int.reduceSub, eq_self, Bool.not_true, Bool.not_false, Bool.and_true, Bool.true_and, Bool.and_false, Bool.false_and, Bool.or_true, Bool.true_or, Bool.or_false, Bool.false_or, decide_true, decide_false, if_true, if_false, ite_true, ite_false, Bool.false_eq_true, and_true, true_and, and_false, false_and, not_true_eq_false, not_false_eq_true]
  · rw [isE he] at ne
    rw [textE he]
    simp only [q1, e2, ne, j, ev_var, ev_var1, ev_c, ev_vout, ev_bin, ev_bin1, ev_bin2, ev_un, ev_un1, ev_lnil, ev_lcons, ev_lcons1, ev_lcons2, ev_ldef, ev_ldef1, ev_lstar, ev_lstar1, ev_lstar1b, ev_lstar2, ev_tup, ev_tup1, ev_lst, ev_lst1, ev_lchk, ev_lchk1, ev_call, ev_call1, ev_g, ev_b, ev_b1, ev_tmp, ev_tmp1, ev_comp, ev_comp1, ev_if, ev_if1t, ev_if1f, ev_bt, ev_bt1, ev_bt2, ev_bv, ev_bv1, ev_bnot, ev_bnot1, ev_band, ev_band1t, ev_band1f, ev_bor, ev_bor1t, ev_bor1f, ev_byes, ev_eand, ev_eand1, ev_eand2t, ev_eand2f, ev_eor, ev_eor1, ev_eor2t, ev_eor2f, ev_enot, ev_enot1, ev_enot2, ev_ch, ev_ch1, ev_ch2, ev_ch3t, ev_ch3f, ev_ch4, ev_m, ev_m1, ev_m2, ev_m3, ev_jo, ev_jo1, ev_jo2, ev_fs, ev_jfn, ev_jfc, ev_jf1, ev_dct, ev_kvn, ev_kvc, ev_kv1, ev_kv2, ev_kv3, ev_dct1, ev_pn, ev_ps, ev_ps1, ev_sl, ev_sl1, ev_sl2, ev_sl3, ev_snil, ev_seq, ev_seqn, ev_seqr, ev_seqb, ev_seqc, ev_seqx, ev_sex, ev_sex1, ev_ret, ev_ret1, ev_retn, ev_sif, ev_sif1t, ev_sif1f, ev_brk, ev_cnt, ev_asg, ev_asg1, ev_gnm, ev_gnil, ev_gcons, ev_gcons1, ev_gtp, ev_gst, ev_gst1, ev_gsub, ev_gsub1, ev_gsub2, ev_gsub3, ev_par, ev_par1, ev_par3, ev_par31, ev_aug, ev_aug1, ev_aug2, ev_aug3, ev_for, ev_for1, ev_lcomp, ev_lcomp1, ev_wipn, ev_wipc, ev_iseq, ev_iseq1, ev_seqt, ev_seqf, ev_seqs, ev_seql, ev_seql1, ev_rg1, ev_rg11, ev_rg2, ev_rg21, ev_en, ev_en1, ev_en2, ev_outr, ev_outn, ev_outx, ev_ixi, ev_ixk, ev_ixl, ev_ixll, ev_ixld, ev_ixkk, ev_ix1, ev_ixt, ev_ixf, vv_oAdd, vv_oAddI, vv_oSub, vv_oLt, vv_oLe, vv_oGt, vv_oGe, vv_oEq, vv_oNe, vv_eqs, vv_nes, vv_eqns, vv_isn, vv_notn, vv_in_non, vv_in_bl, vv_in_int, vv_in_str, vv_in_tup, vv_in_frz, vv_in_loc, vv_neg, vv_tb, vv_ti, vv_tn, vv_tt, vv_tf, vv_mul, vv_div, vv_mod, vv_pow7, vv_pow8, vv_pow9, vv_pow18, vv_pow12, vv_pow6, vv_pow5, vv_pow4, vv_pow10, vv_pow16, vv_abs, vv_min, vv_max, vv_inti, vv_intb, vv_stri, vv_strs, vv_lent, vv_lenf, vv_lens, vv_htup, vv_hlen, vv_is_non_bool, vv_is_non_int, vv_is_non_str, vv_is_non_tuple, vv_is_bl_bool, vv_is_bl_int, vv_is_bl_str, vv_is_bl_tuple, vv_is_int_bool, vv_is_int_int, vv_is_int_str, vv_is_int_tuple, vv_is_str_bool, vv_is_str_int, vv_is_str_str, vv_is_str_tuple, vv_is_tup_bool, vv_is_tup_int, vv_is_tup_str, vv_is_tup_tuple, vv_is_frz_bool, vv_is_frz_int, vv_is_frz_str, vv_is_frz_tuple, vv_iss, vv_items_t, vv_items_f, vv_spl, vv_fmts, vv_fmti, vv_cats, vv_cast0, vv_cast1, vv_cast2, vv_cast3, vv_cast4, vv_cast5, vv_cast6, vv_cast7, vv_cast8, vv_cast9, vv_cast10, vv_cast11, vv_line0, vv_line1, vv_line2, vv_line3, vv_line4, vv_line5, vv_line6, vv_line7, vv_line8, vv_isl, vv_isl1, vv_lenl, vv_lenl1, vv_tupl, vv_tupl1, vv_items_l, vv_items_l1, vv_lst_f, vv_lst_l, vv_lst_l1, vv_app, vv_app1, vv_pop0, vv_pop01, vv_ins0, vv_ins01, vv_mull, vv_mull0, vv_mull1, vv_addl, vv_addl1, vv_slf, vv_slt, List.getElem?_cons_zero, List.getElem?_cons_succ, List.set_cons_zero, List.set_cons_succ, List.map_cons, List.map_nil, List.length_cons, List.length_nil, List.replicate_succ, List.replicate_zero, List.cons_append, List.nil_append, List.append_nil, Option.map_some, Option.map_none, Option.bind_some, Nat.reduceSub, Nat.reduceAdd, Nat.reduceMul, Nat.reduceLeDiff, Nat.zero_le, Int.reduceLT, Int.reduceLE, Int.reduceNeg, Int.reduceAdd, Int.reduceEq, Int.reduceMul, Int.reduceSub, eq_self, Bool.not_true, Bool.not_false, Bool.and_true, Bool.true_and, Bool.and_false, Bool.false_and, Bool.or_true, Bool.true_or, Bool.or_false, Bool.false_or, decide_true, decide_false, if_true, if_false, ite_true, ite_false, Bool.false_eq_true, and_true, true_and, and_false, false_and, not_true_eq_false, not_false_eq_true]
end
end K71

set_option maxRecDepth 100000
set_option maxHeartbeats 4000000
namespace K71
open PySem PySem.Spec PyProof.Rows L2 Fx
section
variable {d n k : Nat} {s : Sto} {α : Type} {fst lst : α → Int}
theorem inc_mono : ∀ {xs : List α} {a b : Int}, Inc fst lst b xs → a ≤ b → Inc fst lst a xs
  | [], _, _, _, _ => trivial
  | x :: r, a, b, h, hab => ⟨by have := h.1; omega, h.2⟩
theorem inc_snoc : ∀ {xs : List α} {a : Int} {x : α}, Inc fst lst a xs → (∀ q ∈ xs, lst q < fst x) → a < fst x → Inc fst lst a (xs ++ [x])
  | [], _, _, _, _, h => ⟨h, trivial⟩
  | y :: r, a, x, hI, h, ha => ⟨hI.1, inc_snoc hI.2 (fun q hq => h q (List.mem_cons_of_mem _ hq)) (h y List.mem_cons_self)⟩
theorem inc_filter {p : α → Bool} : ∀ {xs : List α} {a : Int}, Inc fst lst a xs → (∀ x ∈ xs, fst x ≤ lst x) → Inc fst lst a (xs.filter p)
  | [], _, _, _ => trivial
  | x :: r, a, hI, h => by
    have hx := h x List.mem_cons_self
    have ih := inc_filter (p := p) hI.2 fun y hy => h y (List.mem_cons_of_mem _ hy)
    cases e : p x with
    | true => rw [List.filter_cons_of_pos e]; exact ⟨hI.1, ih⟩
    | false => rw [List.filter_cons_of_neg (by simp [e])]; exact inc_mono ih (by have := hI.1; omega)
theorem map_snoc {β : Type} {f : α → β} {xs : List α} {x : α} : xs.map f ++ [f x] = (xs ++ [x]).map f := by simp
theorem Frn.of_frm {s1 s2 : Sto} (a : Frn d s s1) (b : Frm d s1 s2) : Frn d s s2 := a.trans b.frn
theorem log_spec {great : Int} (P : Pot d n s) (hn : n ≤ NB) (hg : 1 ≤ great) (hg2 : great ≤ 1000000000) : ∃ (xs : List (Int × Int)) (s' : Sto), run pr (k + 3) "_law_log" [.loc d, .int 60, .int great] s = .ok (.tup (xs.map encP)) s' ∧ Pot d (n + 2000) s' ∧ Frm d s s' ∧
    (∀ x ∈ xs, okP x) ∧ xs.length ≤ 60 ∧ Inc (fun q : Int × Int => q.1) (fun q => q.2) (-1) xs := by
  unfold NB at hn
  have hd := P.lt
  let s1 := s.add (.lst [])
  have q1 : s.add (.lst []) = s1 := rfl
  have F0 : Frn d s s1 := Frn.add
  obtain ⟨v1, s2, e1, a1, b1, P2, F2⟩ := draw_spec (k := k + 1) (many := great) pr__law_draw (P.add (o := .lst [])) (by omega) (by omega) (by omega)
  obtain ⟨h0, s3, e3, m3, P3, F3⟩ := one_ints (k := k) (us := [0, 1, v1]) pr__law_draw pr__law_one P2 F2 (by omega) (by simp) (by simp)
  simp only [List.map_cons, List.map_nil] at e3
  have hh0 : 0 ≤ h0 := by simp at m3; omega
  obtain ⟨c, s4, e4, a4, b4, P4, F4⟩ := draw_spec (k := k + 1) (many := 61) pr__law_draw P3 (by omega) (by decide) (by decide)
  have f1 : s1.get s.len = some (.lst []) := get_add
  have f4 : s4.get s.len = some (.lst (([] : List (Int × Int)).map encP)) := (F4.get _ hd).trans ((F3.get _ hd).trans f1)
  have G4 : Frn d s s4 := Frn.of_frm (Frn.of_frm F0 F3) F4
  let I : Nat → Fx.Env → Sto → Prop := fun i r s' => ∃ (here : Int) (ps : List (Int × Int)) (x y : Option T), r = [some (.loc d), some (.int 60), some (.int great), some (.loc s.len), some (.int here), x, y, none] ∧ s'.get s.len = some (.lst (ps.map encP)) ∧ Pot d (n + 20 + 20 * i) s' ∧ Frn d s s' ∧
    0 ≤ here ∧ (∀ q ∈ ps, 0 ≤ q.1 ∧ q.1 < q.2 ∧ q.2 < here) ∧ Inc (fun q : Int × Int => q.1) (fun q => q.2) (-1) ps ∧ ps.length = i ∧ i ≤ 60
  have hc60 : (rgT 0 c).length ≤ 60 := by simp [rgT]; omega
  obtain ⟨r', s5, e5, here, ps, x5, y5, rfl, f5, P5, G5, hh5, hps, hI5, hlen, _⟩ := forL_inv (I := I) (chk := chkT) (g := gNm 5)
    (b := (sSeq (sAsg (eG (eCall (run pr (k + 2)) "_law_one" (lDef (lCons (eVar 0) (lCons (eLst (lCons (eC (.int 1)) (lCons (eC (.int 2)) (lCons (eBin oAdd (eC (.int 1)) (eCall (run pr (k + 2)) "_law_draw" (lDef (lCons (eVar 0) (lCons (eC (.int 20)) lNil)) []))) (lCons (eBin oAdd (eC (.int 1)) (eCall (run pr (k + 2)) "_law_draw" (lDef (lCons (eVar 0) (lCons (eVar 2) lNil)) []))) lNil))))) lNil)) []))) (gNm 6))
  (sSeq (sEx (eM "list" mAppend (eVar 3) (lCons (eTup (lCons (eVar 4) (lCons (eBin oAdd (eVar 4) (eVar 6)) lNil))) lNil)))
  (sAsg (eBin oAdd (eBin oAdd (eVar 4) (eVar 6)) (eG (eCall (run pr (k + 2)) "_law_one" (lDef (lCons (eVar 0) (lCons (eLst (lCons (eC (.int 1)) (lCons (eC (.int 2)) (lCons (eBin oAdd (eC (.int 1)) (eCall (run pr (k + 2)) "_law_draw" (lDef (lCons (eVar 0) (lCons (eC (.int 20)) lNil)) []))) (lCons (eBin oAdd (eC (.int 1)) (eCall (run pr (k + 2)) "_law_draw" (lDef (lCons (eVar 0) (lCons (eVar 2) lNil)) []))) lNil))))) lNil)) [])))) (gNm 4)))))
    (ts := rgT 0 c) (r := [some (.loc d), some (.int 60), some (.int great), some (.loc s.len), some (.int h0), none, none, none]) (s := s4)
    (fun _ _ _ _ => rfl)
    (fun i t r s' ht hIv => by
      obtain ⟨here, ps, x, y, rfl, f, P, G, hh, hps, hI, hlen, hi⟩ := hIv
      have hi60 : i < (rgT 0 c).length := (List.getElem?_eq_some_iff.mp ht).1
      obtain ⟨u1, t1, g1, c1, d1, Q1, K1⟩ := draw_spec (k := k + 1) (many := 20) pr__law_draw P (by omega) (by decide) (by decide)
      obtain ⟨u2, t2, g2, c2, d2, Q2, K2⟩ := draw_spec (k := k + 1) (many := great) pr__law_draw Q1 (by omega) (by omega) (by omega)
      obtain ⟨sz, t3, g3, m3, Q3, K3⟩ := one_ints (k := k) (us := [1, 2, 1 + u1, 1 + u2]) pr__law_draw pr__law_one Q2 (K1.trans K2) (by omega) (by simp) (by simp)
      simp only [List.map_cons, List.map_nil] at g3
      have hsz : 1 ≤ sz := by simp at m3; omega
      have f3 : t3.get s.len = some (.lst (ps.map encP)) := (K3.get _ hd).trans f
      have hz : (ps.map encP).length < sizeLine := by rw [List.length_map, sizeLine_eq]; omega
      have et : ps.map encP ++ [T.tup [.int here, .int (here + sz)]] = (ps ++ [(here, here + sz)]).map encP := map_snoc (f := encP) (x := (here, here + sz))
      have hho : O.hi (.lst (ps.map encP ++ [T.tup [.int here, .int (here + sz)]])) ≤ s.len := by rw [et, enc_hi fun _ => rfl]; exact Nat.zero_le _
      let t4 := t3.put s.len (.lst (ps.map encP ++ [T.tup [.int here, .int (here + sz)]]))
      have f4' : t4.get s.len = some (.lst ((ps ++ [(here, here + sz)]).map encP)) := by rw [← et]; exact get_put (lt_of_get f3)
      have q4 : t3.put s.len (.lst (ps.map encP ++ [T.tup [.int here, .int (here + sz)]])) = t4 := rfl
      have Q4 : Pot d _ t4 := Q3.put hd
      have G4' : Frn d s t4 := (Frn.of_frm G K3).putNew (Nat.le_refl _) hho
      obtain ⟨u5, t5, g5, c5, d5, Q5, K5⟩ := draw_spec (k := k + 1) (many := 20) pr__law_draw Q4 (by omega) (by decide) (by decide)
      obtain ⟨u6, t6, g6, c6, d6, Q6, K6⟩ := draw_spec (k := k + 1) (many := great) pr__law_draw Q5 (by omega) (by omega) (by omega)
      obtain ⟨pz, t7, g7, m7, Q7, K7⟩ := one_ints (k := k) (us := [1, 2, 1 + u5, 1 + u6]) pr__law_draw pr__law_one Q6 (K5.trans K6) (by omega) (by simp) (by simp)
      simp only [List.map_cons, List.map_nil] at g7
      have hpz : 1 ≤ pz := by simp at m7; omega
      refine ⟨[some (.loc d), some (.int 60), some (.int great), some (.loc s.len), some (.int here), some t, y, none], s', [some (.loc d), some (.int 60), some (.int great), some (.loc s.len), some (.int (here + sz + pz)), some t, some (.int sz), none], t7, by simp only [ev_var, ev_var1, ev_c, ev_vout, ev_bin, ev_bin1, ev_bin2, ev_un, ev_un1, ev_lnil, ev_lcons, ev_lcons1, ev_lcons2, ev_ldef, ev_ldef1, ev_lstar, ev_lstar1, ev_lstar1b, ev_lstar2, ev_tup, ev_tup1, ev_lst, ev_lst1, ev_lchk, ev_lchk1, ev_call, ev_call1, ev_g, ev_b, ev_b1, ev_tmp, ev_tmp1, ev_comp, ev_comp1, ev_if, ev_if1t, ev_if1f, ev_bt, ev_bt1, ev_bt2, ev_bv, ev_bv1, ev_bnot, ev_bnot1, ev_band, ev_band1t, ev_band1f, ev_bor, ev_bor1t, ev_bor1f, ev_byes, ev_eand, ev_eand1, ev_eand2t, ev_eand2f, ev_eor, ev_eor1, ev_eor2t, ev_eor2f, ev_enot, ev_enot1, ev_enot2, ev_ch, ev_ch1, ev_ch2, ev_ch3t, ev_ch3f, ev_ch4, ev_m, ev_m1, ev_m2, ev_m3, ev_jo, ev_jo1, ev_jo2, ev_fs, ev_jfn, ev_jfc, ev_jf1, ev_dct, ev_kvn, ev_kvc, ev_kv1, ev_kv2, ev_kv3, ev_dct1, ev_pn, ev_ps, ev_ps1, ev_sl, ev_sl1, ev_sl2, ev_sl3, ev_snil, ev_seq, ev_seqn, ev_seqr, ev_seqb, ev_seqc, ev_seqx, ev_sex, ev_sex1, ev_ret, ev_ret1, ev_retn, ev_sif, ev_sif1t, ev_sif1f, ev_brk, ev_cnt, ev_asg, ev_asg1, ev_gnm, ev_gnil, ev_gcons, ev_gcons1, ev_gtp, ev_gst, ev_gst1, ev_gsub, ev_gsub1, ev_gsub2, ev_gsub3, ev_par, ev_par1, ev_par3, ev_par31, ev_aug, ev_aug1, ev_aug2, ev_aug3, ev_for, ev_for1, ev_lcomp, ev_lcomp1, ev_wipn, ev_wipc, ev_iseq, ev_iseq1, ev_seqt, ev_seqf, ev_seqs, ev_seql, ev_seql1, ev_rg1, ev_rg11, ev_rg2, ev_rg21, ev_en, ev_en1, ev_en2, ev_outr, ev_outn, ev_outx, ev_ixi, ev_ixk, ev_ixl, ev_ixll, ev_ixld, ev_ixkk, ev_ix1, ev_ixt, ev_ixf, vv_oAdd, vv_oAddI, vv_oSub, vv_oLt, vv_oLe, vv_oGt, vv_oGe, vv_oEq, vv_oNe, vv_eqs, vv_nes, vv_eqns, vv_isn, vv_notn, vv_in_non, vv_in_bl, vv_in_int, vv_in_str, vv_in_tup, vv_in_frz, vv_in_loc, vv_neg, vv_tb, vv_ti, vv_tn, vv_tt, vv_tf, vv_mul, vv_div, vv_mod, vv_pow7, vv_pow8, vv_pow9, vv_pow18, vv_pow12, vv_pow6, vv_pow5, vv_pow4, vv_pow10, vv_pow16, vv_abs, vv_min, vv_max, vv_inti, vv_intb, vv_stri, vv_strs, vv_lent, vv_lenf, vv_lens, vv_htup, vv_hlen, vv_is_non_bool, vv_is_non_int, vv_is_non_str, vv_is_non_tuple, vv_is_bl_bool, vv_is_bl_int, vv_is_bl_str, vv_is_bl_tuple, vv_is_int_bool, vv_is_int_int, vv_is_int_str, vv_is_int_tuple, vv_is_str_bool, vv_is_str_int, vv_is_str_str, vv_is_str_tuple, vv_is_tup_bool, vv_is_tup_int, vv_is_tup_str, vv_is_tup_tuple, vv_is_frz_bool, vv_is_frz_int, vv_is_frz_str, vv_is_frz_tuple, vv_iss, vv_items_t, vv_items_f, vv_spl, vv_fmts, vv_fmti, vv_cats, vv_cast0, vv_cast1, vv_cast2, vv_cast3, vv_cast4, vv_cast5, vv_cast6, vv_cast7, vv_cast8, vv_cast9, vv_cast10, vv_cast11, vv_line0, vv_line1, vv_line2, vv_line3, vv_line4, vv_line5, vv_line6, vv_line7, vv_line8, vv_isl, vv_isl1, vv_lenl, vv_lenl1, vv_tupl, vv_tupl1, vv_items_l, vv_items_l1, vv_lst_f, vv_lst_l, vv_lst_l1, vv_app, vv_app1, vv_pop0, vv_pop01, vv_ins0, vv_ins01, vv_mull, vv_mull0, vv_mull1, vv_addl, vv_addl1, vv_slf, vv_slt, List.getElem?_cons_zero, List.getElem?_cons_succ, List.set_cons_zero, List.set_cons_succ, List.map_cons, List.map_nil, List.length_cons, List.length_nil, List.replicate_succ, List.replicate_zero, List.cons_append, List.nil_append, List.append_nil, Option.map_some, Option.map_none, Option.bind_some, Nat.reduceSub, Nat.reduceAdd, Nat.reduceMul, Nat.reduceLeDiff, Nat.zero_le, Int.reduceLT, Int.reduceLE, Int.reduceNeg, Int.reduceAdd, Int.reduceEq, Int.reduceMul, Int.reduceSub, eq_self, Bool.not_true, Bool.not_false, Bool.and_true, Bool.true_and, Bool.and_false, Bool.false_and, Bool.or_true, Bool.true_or, Bool.or_false, Bool.false_or, decide_true, decide_false, if_true, if_false, ite_true, ite_false, Bool.false_eq_true, and_true, true_and, and_false, false_and, not_true_eq_false, not_false_eq_true], ?_, ?_⟩
      · simp only [g1, g2, g3, f3, hz, q4, g5, g6, g7, ev_var, ev_var1, ev_c, ev_vout, ev_bin, ev_bin1, ev_bin2, ev_un, ev_un1, ev_lnil, ev_lcons, ev_lcons1, ev_lcons2, ev_ldef, ev_ldef1, ev_lstar, ev_lstar1, ev_lstar1b, ev_lstar2, ev_tup, ev_tup1, ev_lst, ev_lst1, ev_lchk, ev_lchk1, ev_call, ev_call1, ev_g, ev_b, ev_b1, ev_tmp, ev_tmp1, ev_comp, ev_comp1, ev_if, ev_if1t, ev_if1f, ev_bt, ev_bt1, ev_bt2, ev_bv, ev_bv1, ev_bnot, ev_bnot1, ev_band, ev_band1t, ev_band1f, ev_bor, ev_bor1t, ev_bor1f, ev_byes, ev_eand, ev_eand1, ev_eand2t, ev_eand2f, ev_eor, ev_eor1, ev_eor2t, ev_eor2f, ev_enot, ev_enot1, ev_enot2, ev_ch, ev_ch1, ev_ch2, ev_ch3t, ev_ch3f, ev_ch4, ev_m, ev_m1, ev_m2, ev_m3, ev_jo, ev_jo1, ev_jo2, ev_fs, ev_jfn, ev_jfc, ev_jf1, ev_dct, ev_kvn, ev_kvc, ev_kv1, ev_kv2, ev_kv3, ev_dct1, ev_pn, ev_ps, ev_ps1, ev_sl, ev_sl1, ev_sl2, ev_sl3, ev_snil, ev_seq, ev_seqn, ev_seqr, ev_seqb, ev_seqc, ev_seqx, ev_sex, ev_sex1, ev_ret, ev_ret1, ev_retn, ev_sif, ev_sif1t, ev_sif1f, ev_brk, ev_cnt, ev_asg, ev_asg1, ev_gnm, ev_gnil, ev_gcons, ev_gcons1, ev_gtp, ev_gst, ev_gst1, ev_gsub, ev_gsub1, ev_gsub2, ev_gsub3, ev_par, ev_par1, ev_par3, ev_par31, ev_aug, ev_aug1, ev_aug2, ev_aug3, ev_for, ev_for1, ev_lcomp, ev_lcomp1, ev_wipn, ev_wipc, ev_iseq, ev_iseq1, ev_seqt, ev_seqf, ev_seqs, ev_seql, ev_seql1, ev_rg1, ev_rg11, ev_rg2, ev_rg21, ev_en, ev_en1, ev_en2, ev_outr, ev_outn, ev_outx, ev_ixi, ev_ixk, ev_ixl, ev_ixll, ev_ixld, ev_ixkk, ev_ix1, ev_ixt, ev_ixf, vv_oAdd, vv_oAddI, vv_oSub, vv_oLt, vv_oLe, vv_oGt, vv_oGe, vv_oEq, vv_oNe, vv_eqs, vv_nes, vv_eqns, vv_isn, vv_notn, vv_in_non, vv_in_bl, vv_in_int, vv_in_str, vv_in_tup, vv_in_frz, vv_in_loc, vv_neg, vv_tb, vv_ti, vv_tn, vv_tt, vv_tf, vv_mul, vv_div, vv_mod, vv_pow7, vv_pow8, vv_pow9, vv_pow18, vv_pow12, vv_pow6, vv_pow5, vv_pow4, vv_pow10, vv_pow16, vv_abs, vv_min, vv_max, vv_inti, vv_intb, vv_stri, vv_strs, vv_lent, vv_lenf, vv_lens, vv_htup, vv_hlen, vv_is_non_bool, vv_is_non_int, vv_is_non_str, vv_is_non_tuple, vv_is_bl_bool, vv_is_bl_int, vv_is_bl_str, vv_is_bl_tuple, vv_is_int_bool, vv_is_int_int, vv_is_int_str, vv_is_int_tuple, vv_is_str_bool, vv_is_str_int, vv_is_str_str, vv_is_str_tuple, vv_is_tup_bool, vv_is_tup_int, vv_is_tup_str, vv_is_tup_tuple, vv_is_frz_bool, vv_is_frz_int, vv_is_frz_str, vv_is_frz_tuple, vv_iss, vv_items_t, vv_items_f, vv_spl, vv_fmts, vv_fmti, vv_cats, vv_cast0, vv_cast1, vv_cast2, vv_cast3, vv_cast4, vv_cast5, vv_cast6, vv_cast7, vv_cast8, vv_cast9, vv_cast10, vv_cast11, vv_line0, vv_line1, vv_line2, vv_line3, vv_line4, vv_line5, vv_line6, vv_line7, vv_line8, vv_isl, vv_isl1, vv_lenl, vv_lenl1, vv_tupl, vv_tupl1, vv_items_l, vv_items_l1, vv_lst_f, vv_lst_l, vv_lst_l1, vv_app, vv_app1, vv_pop0, vv_pop01, vv_ins0, vv_ins01, vv_mull, vv_mull0, vv_mull1, vv_addl, vv_addl1, vv_slf, vv_slt, List.getElem?_cons_zero, List.getElem?_cons_succ, List.set_cons_zero, List.set_cons_succ, List.map_cons, List.map_nil, List.length_cons, List.length_nil, List.replicate_succ, List.replicate_zero, List.cons_append, List.nil_append, List.append_nil, Option.map_some, Option.map_none, Option.bind_some, Nat.reduceSub, Nat.reduceAdd, Nat.reduceMul, Nat.reduceLeDiff, Nat.zero_le, Int.reduceLT, Int.reduceLE, Int.reduceNeg, Int.reduceAdd, Int.reduceEq, Int.reduceMul, Int.reduceSub, eq_self, Bool.not_true, Bool.not_false, Bool.and_true, Bool.true_and, Bool.and_false, Bool.false_and, Bool.or_true, Bool.true_or, Bool.or_false, Bool.false_or, decide_true, decide_false, if_true, if_false, ite_true, ite_false, Bool.false_eq_true, and_true, true_and, and_false, false_and, not_true_eq_false, not_false_eq_true]
      · refine ⟨here + sz + pz, ps ++ [(here, here + sz)], _, _, rfl, (K7.get _ hd).trans f4', Q7.mono (by omega), Frn.of_frm G4' K7, by omega, ?_, ?_, by simp [hlen], by omega⟩
        · intro q hq
          rcases List.mem_append.mp hq with hq | hq
          · have := hps q hq; omega
          · simp at hq; subst hq; simp only; omega
        · exact inc_snoc hI (fun q hq => (hps q hq).2.2) (by simp only; omega))
    ⟨h0, [], none, none, rfl, f4, P4.mono (by omega), G4, hh0, by simp, trivial, rfl, by omega⟩
  have c5 : compL (chkL s.len (ps.map encP)) (gNm 7) (bV (eBin oLe (eBin oIx (eVar 7) (eC (.int 1))) (eBin oMul (eC (.int 2)) (eBin oPow (eC (.int 10)) (eC (.int 9)))))) (eVar 7) [some (.loc d), some (.int 60), some (.int great), some (.loc s.len), some (.int here), x5, y5, none] (ps.map encP) [] s5 = .ok ([] ++ (ps.filter fun x => decide (x.2 ≤ 2000000000)).map encP) s5 :=
    compL_filter (chkL_iff.mpr f5) ps [] (fun x _ => ⟨[some (.loc d), some (.int 60), some (.int great), some (.loc s.len), some (.int here), x5, y5, some (encP x)], by simp only [ev_var, ev_var1, ev_c, ev_vout, ev_bin, ev_bin1, ev_bin2, ev_un, ev_un1, ev_lnil, ev_lcons, ev_lcons1, ev_lcons2, ev_ldef, ev_ldef1, ev_lstar, ev_lstar1, ev_lstar1b, ev_lstar2, ev_tup, ev_tup1, ev_lst, ev_lst1, ev_lchk, ev_lchk1, ev_call, ev_call1, ev_g, ev_b, ev_b1, ev_tmp, ev_tmp1, ev_comp, ev_comp1, ev_if, ev_if1t, ev_if1f, ev_bt, ev_bt1, ev_bt2, ev_bv, ev_bv1, ev_bnot, ev_bnot1, ev_band, ev_band1t, ev_band1f, ev_bor, ev_bor1t, ev_bor1f, ev_byes, ev_eand, ev_eand1, ev_eand2t, ev_eand2f, ev_eor, ev_eor1, ev_eor2t, ev_eor2f, ev_enot, ev_enot1, ev_enot2, ev_ch, ev_ch1, ev_ch2, ev_ch3t, ev_ch3f, ev_ch4, ev_m, ev_m1, ev_m2, ev_m3, ev_jo, ev_jo1, ev_jo2, ev_fs, ev_jfn, ev_jfc, ev_jf1, ev_dct, ev_kvn, ev_kvc, ev_kv1, ev_kv2, ev_kv3, ev_dct1, ev_pn, ev_ps, ev_ps1, ev_sl, ev_sl1, ev_sl2, ev_sl3, ev_snil, ev_seq, ev_seqn, ev_seqr, ev_seqb, ev_seqc, ev_seqx, ev_sex, ev_sex1, ev_ret, ev_ret1, ev_retn, ev_sif, ev_sif1t, ev_sif1f, ev_brk, ev_cnt, ev_asg, ev_asg1, ev_gnm, ev_gnil, ev_gcons, ev_gcons1, ev_gtp, ev_gst, ev_gst1, ev_gsub, ev_gsub1, ev_gsub2, ev_gsub3, ev_par, ev_par1, ev_par3, ev_par31, ev_aug, ev_aug1, ev_aug2, ev_aug3, ev_for, ev_for1, ev_lcomp, ev_lcomp1, ev_wipn, ev_wipc, ev_iseq, ev_iseq1, ev_seqt, ev_seqf, ev_seqs, ev_seql, ev_seql1, ev_rg1, ev_rg11, ev_rg2, ev_rg21, ev_en, ev_en1, ev_en2, ev_outr, ev_outn, ev_outx, ev_ixi, ev_ixk, ev_ixl, ev_ixll, ev_ixld, ev_ixkk, ev_ix1, ev_ixt, ev_ixf, vv_oAdd, vv_oAddI, vv_oSub, vv_oLt, vv_oLe, vv_oGt, vv_oGe, vv_oEq, vv_oNe, vv_eqs, vv_nes, vv_eqns, vv_isn, vv_notn, vv_in_non, vv_in_bl, vv_in_int, vv_in_str, vv_in_tup, vv_in_frz, vv_in_loc, vv_neg, vv_tb, vv_ti, vv_tn, vv_tt, vv_tf, vv_mul, vv_div, vv_mod, vv_pow7, vv_pow8, vv_pow9, vv_pow18, vv_pow12, vv_pow6, vv_pow5, vv_pow4, vv_pow10, vv_pow16, vv_abs, vv_min, vv_max, vv_inti, vv_intb, vv_stri, vv_strs, vv_lent, vv_lenf, vv_lens, vv_htup, vv_hlen, vv_is_non_bool, vv_is_non_int, vv_is_non_str, vv_is_non_tuple, vv_is_bl_bool, vv_is_bl_int, vv_is_bl_str, vv_is_bl_tuple, vv_is_int_bool, vv_is_int_int, vv_is_int_str, vv_is_int_tuple, vv_is_str_bool, vv_is_str_int, vv_is_str_str, vv_is_str_tuple, vv_is_tup_bool, vv_is_tup_int, vv_is_tup_str, vv_is_tup_tuple, vv_is_frz_bool, vv_is_frz_int, vv_is_frz_str, vv_is_frz_tuple, vv_iss, vv_items_t, vv_items_f, vv_spl, vv_fmts, vv_fmti, vv_cats, vv_cast0, vv_cast1, vv_cast2, vv_cast3, vv_cast4, vv_cast5, vv_cast6, vv_cast7, vv_cast8, vv_cast9, vv_cast10, vv_cast11, vv_line0, vv_line1, vv_line2, vv_line3, vv_line4, vv_line5, vv_line6, vv_line7, vv_line8, vv_isl, vv_isl1, vv_lenl, vv_lenl1, vv_tupl, vv_tupl1, vv_items_l, vv_items_l1, vv_lst_f, vv_lst_l, vv_lst_l1, vv_app, vv_app1, vv_pop0, vv_pop01, vv_ins0, vv_ins01, vv_mull, vv_mull0, vv_mull1, vv_addl, vv_addl1, vv_slf, vv_slt, List.getElem?_cons_zero, List.getElem?_cons_succ, List.set_cons_zero, List.set_cons_succ, List.map_cons, List.map_nil, List.length_cons, List.length_nil, List.replicate_succ, List.replicate_zero, List.cons_append, List.nil_append, List.append_nil, Option.map_some, Option.map_none, Option.bind_some, Nat.reduceSub, Nat.reduceAdd, Nat.reduceMul, Nat.reduceLeDiff, Nat.zero_le, Int.reduceLT, Int.reduceLE, Int.reduceNeg, Int.reduceAdd, Int.reduceEq, Int.reduceMul, Int.reduceSub, eq_self, Bool.not_true, Bool.not_false, Bool.and_true, Bool.true_and, Bool.and_false, Bool.false_and, Bool.or_true, Bool.true_or, Bool.or_false, Bool.false_or, decide_true, decide_false, if_true, if_false, ite_true, ite_false, Bool.false_eq_true, and_true, true_and, and_false, false_and, not_true_eq_false, not_false_eq_true], by
      have k1 : okN (2 : Int) = true := by decide
      have k2 : okN (1000000000 : Int) = true := by decide
      simp only [encP, at1, k1, k2, ev_var, ev_var1, ev_c, ev_vout, ev_bin, ev_bin1, ev_bin2, ev_un, ev_un1, ev_lnil, ev_lcons, ev_lcons1, ev_lcons2, ev_ldef, ev_ldef1, ev_lstar, ev_lstar1, ev_lstar1b, ev_lstar2, ev_tup, ev_tup1, ev_lst, ev_lst1, ev_lchk, ev_lchk1, ev_call, ev_call1, ev_g, ev_b, ev_b1, ev_tmp, ev_tmp1, ev_comp, ev_comp1, ev_if, ev_if1t, ev_if1f, ev_bt, ev_bt1, ev_bt2, ev_bv, ev_bv1, ev_bnot, ev_bnot1, ev_band, ev_band1t, ev_band1f, ev_bor, ev_bor1t, ev_bor1f, ev_byes, ev_eand, ev_eand1, ev_eand2t, ev_eand2f, ev_eor, ev_eor1, ev_eor2t, ev_eor2f, ev_enot, ev_enot1, ev_enot2, ev_ch, ev_ch1, ev_ch2, ev_ch3t, ev_ch3f, ev_ch4, ev_m, ev_m1, ev_m2, ev_m3, ev_jo, ev_jo1, ev_jo2, ev_fs, ev_jfn, ev_jfc, ev_jf1, ev_dct, ev_kvn, ev_kvc, ev_kv1, ev_kv2, ev_kv3, ev_dct1, ev_pn, ev_ps, ev_ps1, ev_sl, ev_sl1, ev_sl2, ev_sl3, ev_snil, ev_seq, ev_seqn, ev_seqr, ev_seqb, ev_seqc, ev_seqx, ev_sex, ev_sex1, ev_ret, ev_ret1, ev_retn, ev_sif, ev_sif1t, ev_sif1f, ev_brk, ev_cnt, ev_asg, ev_asg1, ev_gnm, ev_gnil, ev_gcons, ev_gcons1, ev_gtp, ev_gst, ev_gst1, ev_gsub, ev_gsub1, ev_gsub2, ev_gsub3, ev_par, ev_par1, ev_par3, ev_par31, ev_aug, ev_aug1, ev_aug2, ev_aug3, ev_for, ev_for1, ev_lcomp, ev_lcomp1, ev_wipn, ev_wipc, ev_iseq, ev_iseq1, ev_seqt, ev_seqf, ev_seqs, ev_seql, ev_seql1, ev_rg1, ev_rg11, ev_rg2, ev_rg21, ev_en, ev_en1, ev_en2, ev_outr, ev_outn, ev_outx, ev_ixi, ev_ixk, ev_ixl, ev_ixll, ev_ixld, ev_ixkk, ev_ix1, ev_ixt, ev_ixf, vv_oAdd, vv_oAddI, vv_oSub, vv_oLt, vv_oLe, vv_oGt, vv_oGe, vv_oEq, vv_oNe, vv_eqs, vv_nes, vv_eqns, vv_isn, vv_notn, vv_in_non, vv_in_bl, vv_in_int, vv_in_str, vv_in_tup, vv_in_frz, vv_in_loc, vv_neg, vv_tb, vv_ti, vv_tn, vv_tt, vv_tf, vv_mul, vv_div, vv_mod, vv_pow7, vv_pow8, vv_pow9, vv_pow18, vv_pow12, vv_pow6, vv_pow5, vv_pow4, vv_pow10, vv_pow16, vv_abs, vv_min, vv_max, vv_inti, vv_intb, vv_stri, vv_strs, vv_lent, vv_lenf, vv_lens, vv_htup, vv_hlen, vv_is_non_bool, vv_is_non_int, vv_is_non_str, vv_is_non_tuple, vv_is_bl_bool, vv_is_bl_int, vv_is_bl_str, vv_is_bl_tuple, vv_is_int_bool, vv_is_int_int, vv_is_int_str, vv_is_int_tuple, vv_is_str_bool, vv_is_str_int, vv_is_str_str, vv_is_str_tuple, vv_is_tup_bool, vv_is_tup_int, vv_is_tup_str, vv_is_tup_tuple, vv_is_frz_bool, vv_is_frz_int, vv_is_frz_str, vv_is_frz_tuple, vv_iss, vv_items_t, vv_items_f, vv_spl, vv_fmts, vv_fmti, vv_cats, vv_cast0, vv_cast1, vv_cast2, vv_cast3, vv_cast4, vv_cast5, vv_cast6, vv_cast7, vv_cast8, vv_cast9, vv_cast10, vv_cast11, vv_line0, vv_line1, vv_line2, vv_line3, vv_line4, vv_line5, vv_line6, vv_line7, vv_line8, vv_isl, vv_isl1, vv_lenl, vv_lenl1, vv_tupl, vv_tupl1, vv_items_l, vv_items_l1, vv_lst_f, vv_lst_l, vv_lst_l1, vv_app, vv_app1, vv_pop0, vv_pop01, vv_ins0, vv_ins01, vv_mull, vv_mull0, vv_mull1, vv_addl, vv_addl1, vv_slf, vv_slt, List.getElem?_cons_zero, List.getElem?_cons_succ, List.set_cons_zero, List.set_cons_succ, List.map_cons, List.map_nil, List.length_cons, List.length_nil, List.replicate_succ, List.replicate_zero, List.cons_append, List.nil_append, List.append_nil, Option.map_some, Option.map_none, Option.bind_some, Nat.reduceSub, Nat.reduceAdd, Nat.reduceMul, Nat.reduceLeDiff, Nat.zero_le, Int.reduceLT, Int.reduceLE, Int.reduceNeg, Int.reduceAdd, Int.reduceEq, Int.reduceMul, Int.reduceSub, eq_self, Bool.not_true, Bool.not_false, Bool.and_true, Bool.true_and, Bool.and_false, Bool.false_and, Bool.or_true, Bool.true_or, Bool.or_false, Bool.false_or, decide_true, decide_false, if_true, if_false, ite_true, ite_false, Bool.false_eq_true, and_true, true_and, and_false, false_and, not_true_eq_false, not_false_eq_true], fun _ => by simp only [ev_var, ev_var1, ev_c, ev_vout, ev_bin, ev_bin1, ev_bin2, ev_un, ev_un1, ev_lnil, ev_lcons, ev_lcons1, ev_lcons2, ev_ldef, ev_ldef1, ev_lstar, ev_lstar1, ev_lstar1b, ev_lstar2, ev_tup, ev_tup1, ev_lst, ev_lst1, ev_lchk, ev_lchk1, ev_call, ev_call1, ev_g, ev_b, ev_b1, ev_tmp, ev_tmp1, ev_comp, ev_comp1, ev_if, ev_if1t, ev_if1f, ev_bt, ev_bt1, ev_bt2, ev_bv, ev_bv1, ev_bnot, ev_bnot1, ev_band, ev_band1t, ev_band1f, ev_bor, ev_bor1t, ev_bor1f, ev_byes, ev_eand, ev_eand1, ev_eand2t, ev_eand2f, ev_eor, ev_eor1, ev_eor2t, ev_eor2f, ev_enot, ev_enot1, ev_enot2, ev_ch, ev_ch1, ev_ch2, ev_ch3t, ev_ch3f, ev_ch4, ev_m, ev_m1, ev_m2, ev_m3, ev_jo, ev_jo1, ev_jo2, ev_fs, ev_jfn, ev_jfc, ev_jf1, ev_dct, ev_kvn, ev_kvc, ev_kv1, ev_kv2, ev_kv3, ev_dct1, ev_pn, ev_ps, ev_ps1, ev_sl, ev_sl1, ev_sl2, ev_sl3, ev_snil, ev_seq, ev_seqn, ev_seqr, ev_seqb, ev_seqc, ev_seqx, ev_sex, ev_sex1, ev_ret, ev_ret1, ev_retn, ev_sif, ev_sif1t, ev_sif1f, ev_brk, ev_cnt, ev_asg, ev_asg1, ev_gnm, ev_gnil, ev_gcons, ev_gcons1, ev_gtp, ev_gst, ev_gst1, ev_gsub, ev_gsub1, ev_gsub2, ev_gsub3, ev_par, ev_par1, ev_par3, ev_par31, ev_aug, ev_aug1, ev_aug2, ev_aug3, ev_for, ev_for1, ev_lcomp, ev_lcomp1, ev_wipn, ev_wipc, ev_iseq, ev_iseq1, ev_seqt, ev_seqf, ev_seqs, ev_seql, ev_seql1, ev_rg1, ev_rg11, ev_rg2, ev_rg21, ev_en, ev_en1, ev_en2, ev_outr, ev_outn, ev_outx, ev_ixi, ev_ixk, ev_ixl, ev_ixll, ev_ixld, ev_ixkk, ev_ix1, ev_ixt, ev_ixf, vv_oAdd, vv_oAddI, vv_oSub, vv_oLt, vv_oLe, vv_oGt, vv_oGe, vv_oEq, vv_oNe, vv_eqs, vv_nes, vv_eqns, vv_isn, vv_notn, vv_in_non, vv_in_bl, vv_in_int, vv_in_str, vv_in_tup, vv_in_frz, vv_in_loc, vv_neg, vv_tb, vv_ti, vv_tn, vv_tt, vv_tf, vv_mul, vv_div, vv_mod, vv_pow7, vv_pow8, vv_pow9, vv_pow18, vv_pow12, vv_pow6, vv_pow5, vv_pow4, vv_pow10, vv_pow16, vv_abs, vv_min, vv_max, vv_inti, vv_intb, vv_stri, vv_strs, vv_lent, vv_lenf, vv_lens, vv_htup, vv_hlen, vv_is_non_bool, vv_is_non_int, vv_is_non_str, vv_is_non_tuple, vv_is_bl_bool, vv_is_bl_int, vv_is_bl_str, vv_is_bl_tuple, vv_is_int_bool, vv_is_int_int, vv_is_int_str, vv_is_int_tuple, vv_is_str_bool, vv_is_str_int, vv_is_str_str, vv_is_str_tuple, vv_is_tup_bool, vv_is_tup_int, vv_is_tup_str, vv_is_tup_tuple, vv_is_frz_bool, vv_is_frz_int, vv_is_frz_str, vv_is_frz_tuple, vv_iss, vv_items_t, vv_items_f, vv_spl, vv_fmts, vv_fmti, vv_cats, vv_cast0, vv_cast1, vv_cast2, vv_cast3, vv_cast4, vv_cast5, vv_cast6, vv_cast7, vv_cast8, vv_cast9, vv_cast10, vv_cast11, vv_line0, vv_line1, vv_line2, vv_line3, vv_line4, vv_line5, vv_line6, vv_line7, vv_line8, vv_isl, vv_isl1, vv_lenl, vv_lenl1, vv_tupl, vv_tupl1, vv_items_l, vv_items_l1, vv_lst_f, vv_lst_l, vv_lst_l1, vv_app, vv_app1, vv_pop0, vv_pop01, vv_ins0, vv_ins01, vv_mull, vv_mull0, vv_mull1, vv_addl, vv_addl1, vv_slf, vv_slt, List.getElem?_cons_zero, List.getElem?_cons_succ, List.set_cons_zero, List.set_cons_succ, List.map_cons, List.map_nil, List.length_cons, List.length_nil, List.replicate_succ, List.replicate_zero, List.cons_append, List.nil_append, List.append_nil, Option.map_some, Option.map_none, Option.bind_some, Nat.reduceSub, Nat.reduceAdd, Nat.reduceMul, Nat.reduceLeDiff, Nat.zero_le, Int.reduceLT, Int.reduceLE, Int.reduceNeg, Int.reduceAdd, Int.reduceEq, Int.reduceMul, Int.reduceSub, eq_self, Bool.not_true, Bool.not_false, Bool.and_true, Bool.true_and, Bool.and_false, Bool.false_and, Bool.or_true, Bool.true_or, Bool.or_false, Bool.false_or, decide_true, decide_false, if_true, if_false, ite_true, ite_false, Bool.false_eq_true, and_true, true_and, and_false, false_and, not_true_eq_false, not_false_eq_true]⟩) (by simp [sizeLine_eq]; omega)
  simp only [List.nil_append] at c5
  obtain ⟨ys, hys⟩ : ∃ ys : List (Int × Int), ys = ps.filter fun x => decide (x.2 ≤ 2000000000) := ⟨_, rfl⟩
  rw [← hys] at c5
  have k3 : okR c = true := okR_small (by omega) (by omega)
  have fin : (b__law_log (run pr (k + 2)) [some (.loc d), some (.int 60), some (.int great), none, none, none, none, none] s).out = .ok (.tup (ys.map encP)) s5 := by
    unfold b__law_log
    simp only [e1, e3, e4, k3, e5, f5, c5, ev_var, ev_var1, ev_c, ev_vout, ev_bin, ev_bin1, ev_bin2, ev_un, ev_un1, ev_lnil, ev_lcons, ev_lcons1, ev_lcons2, ev_ldef, ev_ldef1, ev_lstar, ev_lstar1, ev_lstar1b, ev_lstar2, ev_tup, ev_tup1, ev_lst, ev_lst1, ev_lchk, ev_lchk1, ev_call, ev_call1, ev_g, ev_b, ev_b1, ev_tmp, ev_tmp1, ev_comp, ev_comp1, ev_if, ev_if1t, ev_if1f, ev_bt, ev_bt1, ev_bt2, ev_bv, ev_bv1, ev_bnot, ev_bnot1, ev_band, ev_band1t, ev_band1f, ev_bor, ev_bor1t, ev_bor1f, ev_byes, ev_eand, ev_eand1, ev_eand2t, ev_eand2f, ev_eor, ev_eor1, ev_eor2t, ev_eor2f, ev_enot, ev_enot1, ev_enot2, ev_ch, ev_ch1, ev_ch2, ev_ch3t, ev_ch3f, ev_ch4, ev_m, ev_m1, ev_m2, ev_m3, ev_jo, ev_jo1, ev_jo2, ev_fs, ev_jfn, ev_jfc, ev_jf1, ev_dct, ev_kvn, ev_kvc, ev_kv1, ev_kv2, ev_kv3, ev_dct1, ev_pn, ev_ps, ev_ps1, ev_sl, ev_sl1, ev_sl2, ev_sl3, ev_snil, ev_seq, ev_seqn, ev_seqr, ev_seqb, ev_seqc, ev_seqx, ev_sex, ev_sex1, ev_ret, ev_ret1, ev_retn, ev_sif, ev_sif1t, ev_sif1f, ev_brk, ev_cnt, ev_asg, ev_asg1, ev_gnm, ev_gnil, ev_gcons, ev_gcons1, ev_gtp, ev_gst, ev_gst1, ev_gsub, ev_gsub1, ev_gsub2, ev_gsub3, ev_par, ev_par1, ev_par3, ev_par31, ev_aug, ev_aug1, ev_aug2, ev_aug3, ev_for, ev_for1, ev_lcomp, ev_lcomp1, ev_wipn, ev_wipc, ev_iseq, ev_iseq1, ev_seqt, ev_seqf, ev_seqs, ev_seql, ev_seql1, ev_rg1, ev_rg11, ev_rg2, ev_rg21, ev_en, ev_en1, ev_en2, ev_outr, ev_outn, ev_outx, ev_ixi, ev_ixk, ev_ixl, ev_ixll, ev_ixld, ev_ixkk, ev_ix1, ev_ixt, ev_ixf, vv_oAdd, vv_oAddI, vv_oSub, vv_oLt, vv_oLe, vv_oGt, vv_oGe, vv_oEq, vv_oNe, vv_eqs, vv_nes, vv_eqns, vv_isn, vv_notn, vv_in_non, vv_in_bl, vv_in_int, vv_in_str, vv_in_tup, vv_in_frz, vv_in_loc, vv_neg, vv_tb, vv_ti, vv_tn, vv_tt, vv_tf, vv_mul, vv_div, vv_mod, vv_pow7, vv_pow8, vv_pow9, vv_pow18, vv_pow12, vv_pow6, vv_pow5, vv_pow4, vv_pow10, vv_pow16, vv_abs, vv_min, vv_max, vv_inti, vv_intb, vv_stri, vv_strs, vv_lent, vv_lenf, vv_lens, vv_htup, vv_hlen, vv_is_non_bool, vv_is_non_int, vv_is_non_str, vv_is_non_tuple, vv_is_bl_bool, vv_is_bl_int, vv_is_bl_str, vv_is_bl_tuple, vv_is_int_bool, vv_is_int_int, vv_is_int_str, vv_is_int_tuple, vv_is_str_bool, vv_is_str_int, vv_is_str_str, vv_is_str_tuple, vv_is_tup_bool, vv_is_tup_int, vv_is_tup_str, vv_is_tup_tuple, vv_is_frz_bool, vv_is_frz_int, vv_is_frz_str, vv_is_frz_tuple, vv_iss, vv_items_t, vv_items_f, vv_spl, vv_fmts, vv_fmti, vv_cats, vv_cast0, vv_cast1, vv_cast2, vv_cast3, vv_cast4, vv_cast5, vv_cast6, vv_cast7, vv_cast8, vv_cast9, vv_cast10, vv_cast11, vv_line0, vv_line1, vv_line2, vv_line3, vv_line4, vv_line5, vv_line6, vv_line7, vv_line8, vv_isl, vv_isl1, vv_lenl, vv_lenl1, vv_tupl, vv_tupl1, vv_items_l, vv_items_l1, vv_lst_f, vv_lst_l, vv_lst_l1, vv_app, vv_app1, vv_pop0, vv_pop01, vv_ins0, vv_ins01, vv_mull, vv_mull0, vv_mull1, vv_addl, vv_addl1, vv_slf, vv_slt, List.getElem?_cons_zero, List.getElem?_cons_succ, List.set_cons_zero, List.set_cons_succ, List.map_cons, List.map_nil, List.length_cons, List.length_nil, List.replicate_succ, List.replicate_zero, List.cons_append, List.nil_append, List.append_nil, Option.map_some, Option.map_none, Option.bind_some, Nat.reduceSub, Nat.reduceAdd, Nat.reduceMul, Nat.reduceLeDiff, Nat.zero_le, Int.reduceLT, Int.reduceLE, Int.reduceNeg, Int.reduceAdd, Int.reduceEq, Int.reduceMul, Int.reduceSub, eq_self, Bool.not_true, Bool.not_false, Bool.and_true, Bool.true_and, Bool.and_false, Bool.false_and, Bool.or_true, Bool.true_or, Bool.or_false, Bool.false_or, decide_true, decide_false, if_true, if_false, ite_true, ite_false, Bool.false_eq_true, and_true, true_and, and_false, false_and, not_true_eq_false, not_false_eq_true]
  obtain ⟨s6, e6, F6, P6⟩ := gc_frn (t := .tup (ys.map encP)) G5 P5 (by rw [tup_hi fun _ => rfl]; exact Nat.zero_le _) hd
  refine ⟨ys, s6, (run_eq pr__law_log rfl).trans ((congrArg _ fin).trans e6), P6.mono (by omega), F6, fun x hx => ?_, by rw [hys]; exact Nat.le_trans (List.length_filter_le _ _) (by omega), by rw [hys]; exact inc_filter hI5 fun x hx => by have := hps x hx; omega⟩
  rw [hys] at hx
  obtain ⟨h1, h2⟩ := List.mem_filter.mp hx
  have := hps x h1
  have h2 := of_decide_eq_true h2
  exact ⟨this.1, this.2.1, h2⟩
theorem runs_spec (P : Pot d n s) (hn : n ≤ NB) : ∃ (xs : List (Int × Int × Int)) (s' : Sto), run pr (k + 3) "_law_far_runs" [.loc d, .int 40] s = .ok (.tup (xs.map encR)) s' ∧ Pot d (n + 2000) s' ∧ Frm d s s' ∧
    (∀ x ∈ xs, okR' x) ∧ xs.length ≤ 40 ∧ Inc (fun q : Int × Int × Int => q.1) endR (-1) xs := by
  unfold NB at hn
  have hd := P.lt
  have F0 : Frn d s (s.add (.lst [])) := Frn.add
  obtain ⟨v1, s2, e1, a1, b1, P2, F2⟩ := draw_spec (k := k + 1) (many := 100) pr__law_draw (P.add (o := .lst [])) (by omega) (by decide) (by decide)
  obtain ⟨v2, s3, e2, a2, b2, P3, F3⟩ := draw_spec (k := k + 1) (many := 100000000) pr__law_draw P2 (by omega) (by decide) (by decide)
  obtain ⟨h0, s4, e3, m3, P4, F4⟩ := one_ints (k := k) (us := [0, v1, v2]) pr__law_draw pr__law_one P3 (F2.trans F3) (by omega) (by simp) (by simp)
  simp only [List.map_cons, List.map_nil] at e3
  have hh0 : 0 ≤ h0 := by simp at m3; omega
  obtain ⟨c, s5, e4, a4, b4, P5, F5⟩ := draw_spec (k := k + 1) (many := 41) pr__law_draw P4 (by omega) (by decide) (by decide)
  have f1 : (s.add (.lst [])).get s.len = some (.lst []) := get_add
  have f5 : s5.get s.len = some (.lst (([] : List (Int × Int × Int)).map encR)) := (F5.get _ hd).trans ((F4.get _ hd).trans f1)
  have G5 : Frn d s s5 := Frn.of_frm (Frn.of_frm F0 F4) F5
  let I : Nat → Fx.Env → Sto → Prop := fun i r s' => ∃ (here : Int) (ps : List (Int × Int × Int)) (x y z w : Option T), r = [some (.loc d), some (.int 40), some (.loc s.len), some (.int here), some (.int 1000000000), x, y, z, w] ∧ s'.get s.len = some (.lst (ps.map encR)) ∧ Pot d (n + 20 + 20 * i) s' ∧ Frn d s s' ∧
    0 ≤ here ∧ here ≤ 100000000000000000000 ∧ (∀ q ∈ ps, okR' q ∧ endR q < here) ∧ Inc (fun q : Int × Int × Int => q.1) endR (-1) ps ∧ ps.length ≤ i ∧ i ≤ 40
  have hc40 : (rgT 0 c).length ≤ 40 := by simp [rgT]; omega
  obtain ⟨r', s6, e5, here, ps, x5, y5, z5, w5, rfl, f6, P6, G6, hh5, _, hps, hI5, hlen, hi40⟩ := forL_inv (I := I) (chk := chkT) (g := gNm 5)
    (b := (sSeq (sAsg (eG (eCall (run pr (k + 2)) "_law_one" (lDef (lCons (eVar 0) (lCons (eLst (lCons (eC (.int 1)) (lCons (eC (.int 2)) (lCons (eBin oAdd (eC (.int 1)) (eCall (run pr (k + 2)) "_law_draw" (lDef (lCons (eVar 0) (lCons (eC (.int 30)) lNil)) []))) (lCons (eBin oAdd (eC (.int 1)) (eCall (run pr (k + 2)) "_law_draw" (lDef (lCons (eVar 0) (lCons (eBin oPow (eC (.int 10)) (eC (.int 6))) lNil)) []))) (lCons (eBin oPow (eC (.int 10)) (eC (.int 8))) lNil)))))) lNil)) []))) (gNm 6))
  (sSeq (sAsg (eBin oAdd (eC (.int 1)) (eB fMin2 (lCons (eBin oDiv (eBin oSub (eVar 4) (eVar 3)) (eVar 6)) (lCons (eG (eCall (run pr (k + 2)) "_law_one" (lDef (lCons (eVar 0) (lCons (eLst (lCons (eC (.int 0)) (lCons (eC (.int 1)) (lCons (eCall (run pr (k + 2)) "_law_draw" (lDef (lCons (eVar 0) (lCons (eC (.int 6)) lNil)) [])) (lCons (eCall (run pr (k + 2)) "_law_draw" (lDef (lCons (eVar 0) (lCons (eBin oPow (eC (.int 10)) (eC (.int 7))) lNil)) [])) (lCons (eVar 4) lNil)))))) lNil)) []))) lNil)))) (gNm 7))
  (sIf (bV (eBin oLe (eVar 3) (eVar 4))) (sSeq (sEx (eM "list" mAppend (eVar 2) (lCons (eTup (lCons (eVar 3) (lCons (eIf (bV (eBin oGt (eVar 7) (eC (.int 1)))) (eVar 6) (eC (.int 1))) (lCons (eVar 7) lNil)))) lNil)))
  (sSeq (sAsg (eG (eCall (run pr (k + 2)) "_law_one" (lDef (lCons (eVar 0) (lCons (eLst (lCons (eC (.int 1)) (lCons (eC (.int 2)) (lCons (eBin oAdd (eC (.int 1)) (eCall (run pr (k + 2)) "_law_draw" (lDef (lCons (eVar 0) (lCons (eC (.int 99)) lNil)) []))) (lCons (eBin oAdd (eC (.int 1)) (eCall (run pr (k + 2)) "_law_draw" (lDef (lCons (eVar 0) (lCons (eBin oPow (eC (.int 10)) (eC (.int 7))) lNil)) []))) lNil))))) lNil)) []))) (gNm 8))
  (sAsg (eBin oAdd (eBin oAdd (eVar 3) (eBin oMul (eVar 6) (eBin oSub (eVar 7) (eC (.int 1))))) (eVar 8)) (gNm 3)))) sNil))))
    (ts := rgT 0 c) (r := [some (.loc d), some (.int 40), some (.loc s.len), some (.int h0), some (.int 1000000000), none, none, none, none]) (s := s5)
    (fun _ _ _ _ => rfl)
    (fun i t r s' ht hIv => by
      obtain ⟨here, ps, x, y, z, w, rfl, f, P, G, hh, hhm, hps, hI, hlen, hi⟩ := hIv
      have hi60 : i < (rgT 0 c).length := (List.getElem?_eq_some_iff.mp ht).1
      obtain ⟨u1, t1, g1, c1, d1, Q1, K1⟩ := draw_spec (k := k + 1) (many := 30) pr__law_draw P (by omega) (by decide) (by decide)
      obtain ⟨u2, t2, g2, c2, d2, Q2, K2⟩ := draw_spec (k := k + 1) (many := 1000000) pr__law_draw Q1 (by omega) (by decide) (by decide)
      obtain ⟨st, t3, g3, m3, Q3, K3⟩ := one_ints (k := k) (us := [1, 2, 1 + u1, 1 + u2, 100000000]) pr__law_draw pr__law_one Q2 (K1.trans K2) (by omega) (by simp) (by simp)
      simp only [List.map_cons, List.map_nil] at g3
      have hst : 1 ≤ st ∧ st ≤ 100000000 := by simp at m3; omega
      obtain ⟨u4, t4, g4, c4, d4, Q4, K4⟩ := draw_spec (k := k + 1) (many := 6) pr__law_draw Q3 (by omega) (by decide) (by decide)
      obtain ⟨u5, t5, g5, c5, d5, Q5, K5⟩ := draw_spec (k := k + 1) (many := 10000000) pr__law_draw Q4 (by omega) (by decide) (by decide)
      obtain ⟨mx, t6, g6, m6, Q6, K6⟩ := one_ints (k := k) (us := [0, 1, u4, u5, 1000000000]) pr__law_draw pr__law_one Q5 (K4.trans K5) (by omega) (by simp) (by simp)
      simp only [List.map_cons, List.map_nil] at g6
      have hmx : 0 ≤ mx ∧ mx ≤ 1000000000 := by simp at m6; omega
      have k1 : 0 < st := by omega
      have k2 : okN st = true := okN_small (by omega) (by omega)
      obtain ⟨cn, hcn⟩ : ∃ cn, cn = 1 + (if mx < (1000000000 - here) / st then mx else (1000000000 - here) / st) := ⟨_, rfl⟩
      have f6 : t6.get s.len = some (.lst (ps.map encR)) := (K6.get _ hd).trans ((K3.get _ hd).trans f)
      have G6' : Frn d s t6 := Frn.of_frm (Frn.of_frm G K3) K6
      by_cases hle : here ≤ 1000000000
      · have hq0 : 0 ≤ (1000000000 - here) / st := Int.ediv_nonneg (by omega) (by omega)
        have hq1 : (1000000000 - here) / st * st ≤ 1000000000 - here := Int.ediv_mul_le _ (by omega)
        have hcn1 : 1 ≤ cn ∧ cn ≤ 1000000001 := by rw [hcn]; split <;> omega
        have hcq : cn - 1 ≤ (1000000000 - here) / st := by rw [hcn]; split <;> omega
        have hend : st * (cn - 1) ≤ 1000000000 - here := by
          have : (cn - 1) * st ≤ (1000000000 - here) / st * st := Int.mul_le_mul_of_nonneg_right hcq (by omega)
          rw [Int.mul_comm]; omega
        have hend0 : 0 ≤ st * (cn - 1) := Int.mul_nonneg (by omega) (by omega)
        obtain ⟨pr', hpr⟩ : ∃ q : Int × Int × Int, q = (here, if 1 < cn then st else 1, cn) := ⟨_, rfl⟩
        have hok : okR' pr' ∧ endR pr' = here + st * (cn - 1) := by
          subst hpr
          unfold okR' endR
          by_cases h1 : 1 < cn
          · simp only [h1, if_true]; exact ⟨⟨hh, by omega, by omega, by omega, by omega, by omega⟩, trivial⟩
          · have : cn = 1 := by omega
            subst this
            simp; omega
        have k3 : okN (cn - 1) = true := okN_small (by omega) (by omega)
        have hz : (ps.map encR).length < sizeLine := by rw [List.length_map, sizeLine_eq]; omega
        have et : ps.map encR ++ [T.tup [.int here, .int (if 1 < cn then st else 1), .int cn]] = (ps ++ [pr']).map encR := by rw [hpr]; exact map_snoc (f := encR) (x := (here, if 1 < cn then st else 1, cn))
        have hho : O.hi (.lst (ps.map encR ++ [T.tup [.int here, .int (if 1 < cn then st else 1), .int cn]])) ≤ s.len := by rw [et, enc_hi fun _ => rfl]; exact Nat.zero_le _
        let t7 := t6.put s.len (.lst (ps.map encR ++ [T.tup [.int here, .int (if 1 < cn then st else 1), .int cn]]))
        have f7 : t7.get s.len = some (.lst ((ps ++ [pr']).map encR)) := by rw [← et]; exact get_put (lt_of_get f6)
        have q7 : t6.put s.len (.lst (ps.map encR ++ [T.tup [.int here, .int (if 1 < cn then st else 1), .int cn]])) = t7 := rfl
        have Q7 : Pot d _ t7 := Q6.put hd
        have G7 : Frn d s t7 := G6'.putNew (Nat.le_refl _) hho
        obtain ⟨u8, t8, g8, c8, d8, Q8, K8⟩ := draw_spec (k := k + 1) (many := 99) pr__law_draw Q7 (by omega) (by decide) (by decide)
        obtain ⟨u9, t9, g9, c9, d9, Q9, K9⟩ := draw_spec (k := k + 1) (many := 10000000) pr__law_draw Q8 (by omega) (by decide) (by decide)
        obtain ⟨pz, t10, g10, m10, Q10, K10⟩ := one_ints (k := k) (us := [1, 2, 1 + u8, 1 + u9]) pr__law_draw pr__law_one Q9 (K8.trans K9) (by omega) (by simp) (by simp)
        simp only [List.map_cons, List.map_nil] at g10
        have hpz : 1 ≤ pz ∧ pz ≤ 10000000 := by simp at m10; omega
        refine ⟨[some (.loc d), some (.int 40), some (.loc s.len), some (.int here), some (.int 1000000000), some t, y, z, w], s', [some (.loc d), some (.int 40), some (.loc s.len), some (.int (here + st * (cn - 1) + pz)), some (.int 1000000000), some t, some (.int st), some (.int cn), some (.int pz)], t10, by simp only [ev_var, ev_var1, ev_c, ev_vout, ev_bin, ev_bin1, ev_bin2, ev_un, ev_un1, ev_lnil, ev_lcons, ev_lcons1, ev_lcons2, ev_ldef, ev_ldef1, ev_lstar, ev_lstar1, ev_lstar1b, ev_lstar2, ev_tup, ev_tup1, ev_lst, ev_lst1, ev_lchk, ev_lchk1, ev_call, ev_call1, ev_g, ev_b, ev_b1, ev_tmp, ev_tmp1, ev_comp, ev_comp1, ev_if, ev_if1t, ev_if1f, ev_bt, ev_bt1, ev_bt2, ev_bv, ev_bv1, ev_bnot, ev_bnot1, ev_band, ev_band1t, ev_band1f, ev_bor, ev_bor1t, ev_bor1f, ev_byes, ev_eand, ev_eand1, ev_eand2t, ev_eand2f, ev_eor, ev_eor1, ev_eor2t, ev_eor2f, ev_enot, ev_enot1, ev_enot2, ev_ch, ev_ch1, ev_ch2, ev_ch3t, ev_ch3f, ev_ch4, ev_m, ev_m1, ev_m2, ev_m3, ev_jo, ev_jo1, ev_jo2, ev_fs, ev_jfn, ev_jfc, ev_jf1, ev_dct, ev_kvn, ev_kvc, ev_kv1, ev_kv2, ev_kv3, ev_dct1, ev_pn, ev_ps, ev_ps1, ev_sl, ev_sl1, ev_sl2, ev_sl3, ev_snil, ev_seq, ev_seqn, ev_seqr, ev_seqb, ev_seqc, ev_seqx, ev_sex, ev_sex1, ev_ret, ev_ret1, ev_retn, ev_sif, ev_sif1t, ev_sif1f, ev_brk, ev_cnt, ev_asg, ev_asg1, ev_gnm, ev_gnil, ev_gcons, ev_gcons1, ev_gtp, ev_gst, ev_gst1, ev_gsub, ev_gsub1, ev_gsub2, ev_gsub3, ev_par, ev_par1, ev_par3, ev_par31, ev_aug, ev_aug1, ev_aug2, ev_aug3, ev_for, ev_for1, ev_lcomp, ev_lcomp1, ev_wipn, ev_wipc, ev_iseq, ev_iseq1, ev_seqt, ev_seqf, ev_seqs, ev_seql, ev_seql1, ev_rg1, ev_rg11, ev_rg2, ev_rg21, ev_en, ev_en1, ev_en2, ev_outr, ev_outn, ev_outx, ev_ixi, ev_ixk, ev_ixl, ev_ixll, ev_ixld, ev_ixkk, ev_ix1, ev_ixt, ev_ixf, vv_oAdd, vv_oAddI, vv_oSub, vv_oLt, vv_oLe, vv_oGt, vv_oGe, vv_oEq, vv_oNe, vv_eqs, vv_nes, vv_eqns, vv_isn, vv_notn, vv_in_non, vv_in_bl, vv_in_int, vv_in_str, vv_in_tup, vv_in_frz, vv_in_loc, vv_neg, vv_tb, vv_ti, vv_tn, vv_tt, vv_tf, vv_mul, vv_div, vv_mod, vv_pow7, vv_pow8, vv_pow9, vv_pow18, vv_pow12, vv_pow6, vv_pow5, vv_pow4, vv_pow10, vv_pow16, vv_abs, vv_min, vv_max, vv_inti, vv_intb, vv_stri, vv_strs, vv_lent, vv_lenf, vv_lens, vv_htup, vv_hlen, vv_is_non_bool, vv_is_non_int, vv_is_non_str, vv_is_non_tuple, vv_is_bl_bool, vv_is_bl_int, vv_is_bl_str, vv_is_bl_tuple, vv_is_int_bool, vv_is_int_int, vv_is_int_str, vv_is_int_tuple, vv_is_str_bool, vv_is_str_int, vv_is_str_str, vv_is_str_tuple, vv_is_tup_bool, vv_is_tup_int, vv_is_tup_str, vv_is_tup_tuple, vv_is_frz_bool, vv_is_frz_int, vv_is_frz_str, vv_is_frz_tuple, vv_iss, vv_items_t, vv_items_f, vv_spl, vv_fmts, vv_fmti, vv_cats, vv_cast0, vv_cast1, vv_cast2, vv_cast3, vv_cast4, vv_cast5, vv_cast6, vv_cast7, vv_cast8, vv_cast9, vv_cast10, vv_cast11, vv_line0, vv_line1, vv_line2, vv_line3, vv_line4, vv_line5, vv_line6, vv_line7, vv_line8, vv_isl, vv_isl1, vv_lenl, vv_lenl1, vv_tupl, vv_tupl1, vv_items_l, vv_items_l1, vv_lst_f, vv_lst_l, vv_lst_l1, vv_app, vv_app1, vv_pop0, vv_pop01, vv_ins0, vv_ins01, vv_mull, vv_mull0, vv_mull1, vv_addl, vv_addl1, vv_slf, vv_slt, List.getElem?_cons_zero, List.getElem?_cons_succ, List.set_cons_zero, List.set_cons_succ, List.map_cons, List.map_nil, List.length_cons, List.length_nil, List.replicate_succ, List.replicate_zero, List.cons_append, List.nil_append, List.append_nil, Option.map_some, Option.map_none, Option.bind_some, Nat.reduceSub, Nat.reduceAdd, Nat.reduceMul, Nat.reduceLeDiff, Nat.zero_le, Int.reduceLT, Int.reduceLE, Int.reduceNeg, Int.reduceAdd, Int.reduceEq, Int.reduceMul, Int.reduceSub, eq_self, Bool.not_true, Bool.not_false, Bool.and_true, Bool.true_and, Bool.and_false, Bool.false_and, Bool.or_true, Bool.true_or, Bool.or_false, Bool.false_or, decide_true, decide_false, if_true, if_false, ite_true, ite_false, Bool.false_eq_true, and_true, true_and, and_false, false_and, not_true_eq_false, not_false_eq_true], ?_, ?_⟩
        · by_cases h1 : 1 < cn
          · simp only [h1, if_true] at q7
            simp only [g1, g2, g3, g4, g5, g6, k1, k2, k3, ← hcn, hle, h1, f6, hz, q7, g8, g9, g10, ev_var, ev_var1, ev_c, ev_vout, ev_bin, ev_bin1, ev_bin2, ev_un, ev_un1, ev_lnil, ev_lcons, ev_lcons1, ev_lcons2, ev_ldef, ev_ldef1, ev_lstar, ev_lstar1, ev_lstar1b, ev_lstar2, ev_tup, ev_tup1, ev_lst, ev_lst1, ev_lchk, ev_lchk1, ev_call, ev_call1, ev_g, ev_b, ev_b1, ev_tmp, ev_tmp1, ev_comp, ev_comp1, ev_if, ev_if1t, ev_if1f, ev_bt, ev_bt1, ev_bt2, ev_bv, ev_bv1, ev_bnot, ev_bnot1, ev_band, ev_band1t, ev_band1f, ev_bor, ev_bor1t, ev_bor1f, ev_byes, ev_eand, ev_eand1, ev_eand2t, ev_eand2f, ev_eor, ev_eor1, ev_eor2t, ev_eor2f, ev_enot, ev_enot1, ev_enot2, ev_ch, ev_ch1, ev_ch2, ev_ch3t, ev_ch3f, ev_ch4, ev_m, ev_m1, ev_m2, ev_m3, ev_jo, ev_jo1, ev_jo2, ev_fs, ev_jfn, ev_jfc, ev_jf1, ev_dct, ev_kvn, ev_kvc, ev_kv1, ev_kv2, ev_kv3, ev_dct1, ev_pn, ev_ps, ev_ps1, ev_sl, ev_sl1, ev_sl2, ev_sl3, ev_snil, ev_seq, ev_seqn, ev_seqr, ev_seqb, ev_seqc, ev_seqx, ev_sex, ev_sex1, ev_ret, ev_ret1, ev_retn, ev_sif, ev_sif1t, ev_sif1f, ev_brk, ev_cnt, ev_asg, ev_asg1, ev_gnm, ev_gnil, ev_gcons, ev_gcons1, ev_gtp, ev_gst, ev_gst1, ev_gsub, ev_gsub1, ev_gsub2, ev_gsub3, ev_par, ev_par1, ev_par3, ev_par31, ev_aug, ev_aug1, ev_aug2, ev_aug3, ev_for, ev_for1, ev_lcomp, ev_lcomp1, ev_wipn, ev_wipc, ev_iseq, ev_iseq1, ev_seqt, ev_seqf, ev_seqs, ev_seql, ev_seql1, ev_rg1, ev_rg11, ev_rg2, ev_rg21, ev_en, ev_en1, ev_en2, ev_outr, ev_outn, ev_outx, ev_ixi, ev_ixk, ev_ixl, ev_ixll, ev_ixld, ev_ixkk, ev_ix1, ev_ixt, ev_ixf, vv_oAdd, vv_oAddI, vv_oSub, vv_oLt, vv_oLe, vv_oGt, vv_oGe, vv_oEq, vv_oNe, vv_eqs, vv_nes, vv_eqns, vv_isn, vv_notn, vv_in_non, vv_in_bl, vv_in_int, vv_in_str, vv_in_tup, vv_in_frz, vv_in_loc, vv_neg, vv_tb, vv_ti, vv_tn, vv_tt, vv_tf, vv_mul, vv_div, vv_mod, vv_pow7, vv_pow8, vv_pow9, vv_pow18, vv_pow12, vv_pow6, vv_pow5, vv_pow4, vv_pow10, vv_pow16, vv_abs, vv_min, vv_max, vv_inti, vv_intb, vv_stri, vv_strs, vv_lent, vv_lenf, vv_lens, vv_htup, vv_hlen, vv_is_non_bool, vv_is_non_int, vv_is_non_str, vv_is_non_tuple, vv_is_bl_bool, vv_is_bl_int, vv_is_bl_str, vv_is_bl_tuple, vv_is_int_bool, vv_is_int_int, vv_is_int_str, vv_is_int_tuple, vv_is_str_bool, vv_is_str_int, vv_is_str_str, vv_is_str_tuple, vv_is_tup_bool, vv_is_tup_int, vv_is_tup_str, vv_is_tup_tuple, vv_is_frz_bool, vv_is_frz_int, vv_is_frz_str, vv_is_frz_tuple, vv_iss, vv_items_t, vv_items_f, vv_spl, vv_fmts, vv_fmti, vv_cats, vv_cast0, vv_cast1, vv_cast2, vv_cast3, vv_cast4, vv_cast5, vv_cast6, vv_cast7, vv_cast8, vv_cast9, vv_cast10, vv_cast11, vv_line0, vv_line1, vv_line2, vv_line3, vv_line4, vv_line5, vv_line6, vv_line7, vv_line8, vv_isl, vv_isl1, vv_lenl, vv_lenl1, vv_tupl, vv_tupl1, vv_items_l, vv_items_l1, vv_lst_f, vv_lst_l, vv_lst_l1, vv_app, vv_app1, vv_pop0, vv_pop01, vv_ins0, vv_ins01, vv_mull, vv_mull0, vv_mull1, vv_addl, vv_addl1, vv_slf, vv_slt, List.getElem?_cons_zero, List.getElem?_cons_succ, List.set_cons_zero, List.set_cons_succ, List.map_cons, List.map_nil, List.length_cons, List.length_nil, List.replicate_succ, List.replicate_zero, List.cons_append, List.nil_append, List.append_nil, Option.map_some, Option.map_none, Option.bind_some, Nat.reduceSub, Nat.reduceAdd, Nat.reduceMul, Nat.reduceLeDiff, Nat.zero_le, Int.reduceLT, Int.reduceLE, Int.reduceNeg, Int.reduceAdd, Int.reduceEq, Int.reduceMul, Int.reduceSub, eq_self, Bool.not_true, Bool.not_false, Bool.and_true, Bool.true_and, Bool.and_false, Bool.false_and, Bool.or_true, Bool.true_or, Bool.or_false, Bool.false_or, decide_true, decide_false, if_true, if_false, ite_true, ite_false, Bool.false_eq_true, and_true, true_and, and_false, false_and, not_true_eq_false, not_false_eq_true]
          · simp only [h1, if_false] at q7
            simp only [g1, g2, g3, g4, g5, g6, k1, k2, k3, ← hcn, hle, h1, f6, hz, q7, g8, g9, g10, ev_var, ev_var1, ev_c, ev_vout, ev_bin, ev_bin1, ev_bin2, ev_un, ev_un1, ev_lnil, ev_lcons, ev_lcons1, ev_lcons2, ev_ldef, ev_ldef1, ev_lstar, ev_lstar1, ev_lstar1b, ev_lstar2, ev_tup, ev_tup1, ev_lst, ev_lst1, ev_lchk, ev_lchk1, ev_call, ev_call1, ev_g, ev_b, ev_b1, ev_tmp, ev_tmp1, ev_comp, ev_comp1, ev_if, ev_if1t, ev_if1f, ev_bt, ev_bt1, ev_bt2, ev_bv, ev_bv1, ev_bnot, ev_bnot1, ev_band, ev_band1t, ev_band1f, ev_bor, ev_bor1t, ev_bor1f, ev_byes, ev_eand, ev_eand1, ev_eand2t, ev_eand2f, ev_eor, ev_eor1, ev_eor2t, ev_eor2f, ev_enot, ev_enot1, ev_enot2, ev_ch, ev_ch1, ev_ch2, ev_ch3t, ev_ch3f, ev_ch4, ev_m, ev_m1, ev_m2, ev_m3, ev_jo, ev_jo1, ev_jo2, ev_fs, ev_jfn, ev_jfc, ev_jf1, ev_dct, ev_kvn, ev_kvc, ev_kv1, ev_kv2, ev_kv3, ev_dct1, ev_pn, ev_ps, ev_ps1, ev_sl, ev_sl1, ev_sl2, ev_sl3, ev_snil, ev_seq, ev_seqn, ev_seqr, ev_seqb, ev_seqc, ev_seqx, ev_sex, ev_sex1, ev_ret, ev_ret1, ev_retn, ev_sif, ev_sif1t, ev_sif1f, ev_brk, ev_cnt, ev_asg, ev_asg1, ev_gnm, ev_gnil, ev_gcons, ev_gcons1, ev_gtp, ev_gst, ev_gst1, ev_gsub, ev_gsub1, ev_gsub2, ev_gsub3, ev_par, ev_par1, ev_par3, ev_par31, ev_aug, ev_aug1, ev_aug2, ev_aug3, ev_for, ev_for1, ev_lcomp, ev_lcomp1, ev_wipn, ev_wipc, ev_iseq, ev_iseq1, ev_seqt, ev_seqf, ev_seqs, ev_seql, ev_seql1, ev_rg1, ev_rg11, ev_rg2, ev_rg21, ev_en, ev_en1, ev_en2, ev_outr, ev_outn, ev_outx, ev_ixi, ev_ixk, ev_ixl, ev_ixll, ev_ixld, ev_ixkk, ev_ix1, ev_ixt, ev_ixf, vv_oAdd, vv_oAddI, vv_oSub, vv_oLt, vv_oLe, vv_oGt, vv_oGe, vv_oEq, vv_oNe, vv_eqs, vv_nes, vv_eqns, vv_isn, vv_notn, vv_in_non, vv_in_bl, vv_in_int, vv_in_str, vv_in_tup, vv_in_frz, vv_in_loc, vv_neg, vv_tb, vv_ti, vv_tn, vv_tt, vv_tf, vv_mul, vv_div, vv_mod, vv_pow7, vv_pow8, vv_pow9, vv_pow18, vv_pow12, vv_pow6, vv_pow5, vv_pow4, vv_pow10, vv_pow16, vv_abs, vv_min, vv_max, vv_inti, vv_intb, vv_stri, vv_strs, vv_lent, vv_lenf, vv_lens, vv_htup, vv_hlen, vv_is_non_bool, vv_is_non_int, vv_is_non_str, vv_is_non_tuple, vv_is_bl_bool, vv_is_bl_int, vv_is_bl_str, vv_is_bl_tuple, vv_is_int_bool, vv_is_int_int, vv_is_int_str, vv_is_int_tuple, vv_is_str_bool, vv_is_str_int, vv_is_str_str, vv_is_str_tuple, vv_is_tup_bool, vv_is_tup_int, vv_is_tup_str, vv_is_tup_tuple, vv_is_frz_bool, vv_is_frz_int, vv_is_frz_str, vv_is_frz_tuple, vv_iss, vv_items_t, vv_items_f, vv_spl, vv_fmts, vv_fmti, vv_cats, vv_cast0, vv_cast1, vv_cast2, vv_cast3, vv_cast4, vv_cast5, vv_cast6, vv_cast7, vv_cast8, vv_cast9, vv_cast10, vv_cast11, vv_line0, vv_line1, vv_line2, vv_line3, vv_line4, vv_line5, vv_line6, vv_line7, vv_line8, vv_isl, vv_isl1, vv_lenl, vv_lenl1, vv_tupl, vv_tupl1, vv_items_l, vv_items_l1, vv_lst_f, vv_lst_l, vv_lst_l1, vv_app, vv_app1, vv_pop0, vv_pop01, vv_ins0, vv_ins01, vv_mull, vv_mull0, vv_mull1, vv_addl, vv_addl1, vv_slf, vv_slt, List.getElem?_cons_zero, List.getElem?_cons_succ, List.set_cons_zero, List.set_cons_succ, List.map_cons, List.map_nil, List.length_cons, List.length_nil, List.replicate_succ, List.replicate_zero, List.cons_append, List.nil_append, List.append_nil, Option.map_some, Option.map_none, Option.bind_some, Nat.reduceSub, Nat.reduceAdd, Nat.reduceMul, Nat.reduceLeDiff, Nat.zero_le, Int.reduceLT, Int.reduceLE, Int.reduceNeg, Int.reduceAdd, Int.reduceEq, Int.reduceMul, Int.reduceSub, eq_self, Bool.not_true, Bool.not_false, Bool.and_true, Bool.true_and, Bool.and_false, Bool.false_and, Bool.or_true, Bool.true_or, Bool.or_false, Bool.false_or, decide_true, decide_false, if_true, if_false, ite_true, ite_false, Bool.false_eq_true, and_true, true_and, and_false, false_and, not_true_eq_false, not_false_eq_true]
        · refine ⟨here + st * (cn - 1) + pz, ps ++ [pr'], _, _, _, _, rfl, (K10.get _ hd).trans f7, Q10.mono (by omega), Frn.of_frm G7 K10, by omega, by omega, ?_, ?_, by simp; omega, by omega⟩
          · intro q hq
            rcases List.mem_append.mp hq with hq | hq
            · have := hps q hq
              exact ⟨this.1, by have := this.2; omega⟩
            · simp at hq; subst hq
              exact ⟨hok.1, by rw [hok.2]; omega⟩
          · exact inc_snoc hI (fun q hq => by have := (hps q hq).2; rw [hpr]; exact this) (by rw [hpr]; show -1 < here; omega)
      · refine ⟨[some (.loc d), some (.int 40), some (.loc s.len), some (.int here), some (.int 1000000000), some t, y, z, w], s', [some (.loc d), some (.int 40), some (.loc s.len), some (.int here), some (.int 1000000000), some t, some (.int st), some (.int cn), w], t6, by simp only [ev_var, ev_var1, ev_c, ev_vout, ev_bin, ev_bin1, ev_bin2, ev_un, ev_un1, ev_lnil, ev_lcons, ev_lcons1, ev_lcons2, ev_ldef, ev_ldef1, ev_lstar, ev_lstar1, ev_lstar1b, ev_lstar2, ev_tup, ev_tup1, ev_lst, ev_lst1, ev_lchk, ev_lchk1, ev_call, ev_call1, ev_g, ev_b, ev_b1, ev_tmp, ev_tmp1, ev_comp, ev_comp1, ev_if, ev_if1t, ev_if1f, ev_bt, ev_bt1, ev_bt2, ev_bv, ev_bv1, ev_bnot, ev_bnot1, ev_band, ev_band1t, ev_band1f, ev_bor, ev_bor1t, ev_bor1f, ev_byes, ev_eand, ev_eand1, ev_eand2t, ev_eand2f, ev_eor, ev_eor1, ev_eor2t, ev_eor2f, ev_enot, ev_enot1, ev_enot2, ev_ch, ev_ch1, ev_ch2, ev_ch3t, ev_ch3f, ev_ch4, ev_m, ev_m1, ev_m2, ev_m3, ev_jo, ev_jo1, ev_jo2, ev_fs, ev_jfn, ev_jfc, ev_jf1, ev_dct, ev_kvn, ev_kvc, ev_kv1, ev_kv2, ev_kv3, ev_dct1, ev_pn, ev_ps, ev_ps1, ev_sl, ev_sl1, ev_sl2, ev_sl3, ev_snil, ev_seq, ev_seqn, ev_seqr, ev_seqb, ev_seqc, ev_seqx, ev_sex, ev_sex1, ev_ret, ev_ret1, ev_retn, ev_sif, ev_sif1t, ev_sif1f, ev_brk, ev_cnt, ev_asg, ev_asg1, ev_gnm, ev_gnil, ev_gcons, ev_gcons1, ev_gtp, ev_gst, ev_gst1, ev_gsub, ev_gsub1, ev_gsub2, ev_gsub3, ev_par, ev_par1, ev_par3, ev_par31, ev_aug, ev_aug1, ev_aug2, ev_aug3, ev_for, ev_for1, ev_lcomp, ev_lcomp1, ev_wipn, ev_wipc, ev_iseq, ev_iseq1, ev_seqt, ev_seqf, ev_seqs, ev_seql, ev_seql1, ev_rg1, ev_rg11, ev_rg2, ev_rg21, ev_en, ev_en1, ev_en2, ev_outr, ev_outn, ev_outx, ev_ixi, ev_ixk, ev_ixl, ev_ixll, ev_ixld, ev_ixkk, ev_ix1, ev_ixt, ev_ixf, vv_oAdd, vv_oAddI, vv_oSub, vv_oLt, vv_oLe, vv_oGt, vv_oGe, vv_oEq, vv_oNe, vv_eqs, vv_nes, vv_eqns, vv_isn, vv_notn, vv_in_non, vv_in_bl, vv_in_int, vv_in_str, vv_in_tup, vv_in_frz, vv_in_loc, vv_neg, vv_tb, vv_ti, vv_tn, vv_tt, vv_tf, vv_mul, vv_div, vv_mod, vv_pow7, vv_pow8, vv_pow9, vv_pow18, vv_pow12, vv_pow6, vv_pow5, vv_pow4, vv_pow10, vv_pow16, vv_abs, vv_min, vv_max, vv_inti, vv_intb, vv_stri, vv_strs, vv_lent, vv_lenf, vv_lens, vv_htup, vv_hlen, vv_is_non_bool, vv_is_non_int, vv_is_non_str, vv_is_non_tuple, vv_is_bl_bool, vv_is_bl_int, vv_is_bl_str, vv_is_bl_tuple, vv_is_int_bool, vv_is_int_int, vv_is_int_str, vv_is_int_tuple, vv_is_str_bool, vv_is_str_int, vv_is_str_str, vv_is_str_tuple, vv_is_tup_bool, vv_is_tup_int, vv_is_tup_str, vv_is_tup_tuple, vv_is_frz_bool, vv_is_frz_int, vv_is_frz_str, vv_is_frz_tuple, vv_iss, vv_items_t, vv_items_f, vv_spl, vv_fmts, vv_fmti, vv_cats, vv_cast0, vv_cast1, vv_cast2, vv_cast3, vv_cast4, vv_cast5, vv_cast6, vv_cast7, vv_cast8, vv_cast9, vv_cast10, vv_cast11, vv_line0, vv_line1, vv_line2, vv_line3, vv_line4, vv_line5, vv_line6, vv_line7, vv_line8, vv_isl, vv_isl1, vv_lenl, vv_lenl1, vv_tupl, vv_tupl1, vv_items_l, vv_items_l1, vv_lst_f, vv_lst_l, vv_lst_l1, vv_app, vv_app1, vv_pop0, vv_pop01, vv_ins0, vv_ins01, vv_mull, vv_mull0, vv_mull1, vv_addl, vv_addl1, vv_slf, vv_slt, List.getElem?_cons_zero, List.getElem?_cons_succ, List.set_cons_zero, List.set_cons_succ, List.map_cons, List.map_nil, List.length_cons, List.length_nil, List.replicate_succ, List.replicate_zero, List.cons_append, List.nil_append, List.append_nil, Option.map_some, Option.map_none, Option.bind_some, Nat.reduceSub, Nat.reduceAdd, Nat.reduceMul, Nat.reduceLeDiff, Nat.zero_le, Int.reduceLT, Int.reduceLE, Int.reduceNeg, Int.reduceAdd, Int.reduceEq, Int.reduceMul, Int.reduceSub, eq_self, Bool.not_true, Bool.not_false, Bool.and_true, Bool.true_and, Bool.and_false, Bool.false_and, Bool.or_true, Bool.true_or, Bool.or_false, Bool.false_or, decide_true, decide_false, if_true, if_false, ite_true, ite_false, Bool.false_eq_true, and_true, true_and, and_false, false_and, not_true_eq_false, not_false_eq_true], ?_, ?_⟩
        · simp only [g1, g2, g3, g4, g5, g6, k1, k2, ← hcn, hle, ev_var, ev_var1, ev_c, ev_vout, ev_bin, ev_bin1, ev_bin2, ev_un, ev_un1, ev_lnil, ev_lcons, ev_lcons1, ev_lcons2, ev_ldef, ev_ldef1, ev_lstar, ev_lstar1, ev_lstar1b, ev_lstar2, ev_tup, ev_tup1, ev_lst, ev_lst1, ev_lchk, ev_lchk1, ev_call, ev_call1, ev_g, ev_b, ev_b1, ev_tmp, ev_tmp1, ev_comp, ev_comp1, ev_if, ev_if1t, ev_if1f, ev_bt, ev_bt1, ev_bt2, ev_bv, ev_bv1, ev_bnot, ev_bnot1, ev_band, ev_band1t, ev_band1f, ev_bor, ev_bor1t, ev_bor1f, ev_byes, ev_eand, ev_eand1, ev_eand2t, ev_eand2f, ev_eor, ev_eor1, ev_eor2t, ev_eor2f, ev_enot, ev_enot1, ev_enot2, ev_ch, ev_ch1, ev_ch2, ev_ch3t, ev_ch3f, ev_ch4, ev_m, ev_m1, ev_m2, ev_m3, ev_jo, ev_jo1, ev_jo2, ev_fs, ev_jfn, ev_jfc, ev_jf1, ev_dct, ev_kvn, ev_kvc, ev_kv1, ev_kv2, ev_kv3, ev_dct1, ev_pn, ev_ps, ev_ps1, ev_sl, ev_sl1, ev_sl2, ev_sl3, ev_snil, ev_seq, ev_seqn, ev_seqr, ev_seqb, ev_seqc, ev_seqx, ev_sex, ev_sex1, ev_ret, ev_ret1, ev_retn, ev_sif, ev_sif1t, ev_sif1f, ev_brk, ev_cnt, ev_asg, ev_asg1, ev_gnm, ev_gnil, ev_gcons, ev_gcons1, ev_gtp, ev_gst, ev_gst1, ev_gsub, ev_gsub1, ev_gsub2, ev_gsub3, ev_par, ev_par1, ev_par3, ev_par31, ev_aug, ev_aug1, ev_aug2, ev_aug3, ev_for, ev_for1, ev_lcomp, ev_lcomp1, ev_wipn, ev_wipc, ev_iseq, ev_iseq1, ev_seqt, ev_seqf, ev_seqs, ev_seql, ev_seql1, ev_rg1, ev_rg11, ev_rg2, ev_rg21, ev_en, ev_en1, ev_en2, ev_outr, ev_outn, ev_outx, ev_ixi, ev_ixk, ev_ixl, ev_ixll, ev_ixld, ev_ixkk, ev_ix1, ev_ixt, ev_ixf, vv_oAdd, vv_oAddI, vv_oSub, vv_oLt, vv_oLe, vv_oGt, vv_oGe, vv_oEq, vv_oNe, vv_eqs, vv_nes, vv_eqns, vv_isn, vv_notn, vv_in_non, vv_in_bl, vv_in_int, vv_in_str, vv_in_tup, vv_in_frz, vv_in_loc, vv_neg, vv_tb, vv_ti, vv_tn, vv_tt, vv_tf, vv_mul, vv_div, vv_mod, vv_pow7, vv_pow8, vv_pow9, vv_pow18, vv_pow12, vv_pow6, vv_pow5, vv_pow4, vv_pow10, vv_pow16, vv_abs, vv_min, vv_max, vv_inti, vv_intb, vv_stri, vv_strs, vv_lent, vv_lenf, vv_lens, vv_htup, vv_hlen, vv_is_non_bool, vv_is_non_int, vv_is_non_str, vv_is_non_tuple, vv_is_bl_bool, vv_is_bl_int, vv_is_bl_str, vv_is_bl_tuple, vv_is_int_bool, vv_is_int_int, vv_is_int_str, vv_is_int_tuple, vv_is_str_bool, vv_is_str_int, vv_is_str_str, vv_is_str_tuple, vv_is_tup_bool, vv_is_tup_int, vv_is_tup_str, vv_is_tup_tuple, vv_is_frz_bool, vv_is_frz_int, vv_is_frz_str, vv_is_frz_tuple, vv_iss, vv_items_t, vv_items_f, vv_spl, vv_fmts, vv_fmti, vv_cats, vv_cast0, vv_cast1, vv_cast2, vv_cast3, vv_cast4, vv_cast5, vv_cast6, vv_cast7, vv_cast8, vv_cast9, vv_cast10, vv_cast11, vv_line0, vv_line1, vv_line2, vv_line3, vv_line4, vv_line5, vv_line6, vv_line7, vv_line8, vv_isl, vv_isl1, vv_lenl, vv_lenl1, vv_tupl, vv_tupl1, vv_items_l, vv_items_l1, vv_lst_f, vv_lst_l, vv_lst_l1, vv_app, vv_app1, vv_pop0, vv_pop01, vv_ins0, vv_ins01, vv_mull, vv_mull0, vv_mull1, vv_addl, vv_addl1, vv_slf, vv_slt, List.getElem?_cons_zero, List.getElem?_cons_succ, List.set_cons_zero, List.set_cons_succ, List.map_cons, List.map_nil, List.length_cons, List.length_nil, List.replicate_succ, List.replicate_zero, List.cons_append, List.nil_append, List.append_nil, Option.map_some, Option.map_none, Option.bind_some, Nat.reduceSub, Nat.reduceAdd, Nat.reduceMul, Nat.reduceLeDiff, Nat.zero_le, Int.reduceLT, Int.reduceLE, Int.reduceNeg, Int.reduceAdd, Int.reduceEq, Int.reduceMul, Int.reduceSub, eq_self, Bool.not_true, Bool.not_false, Bool.and_true, Bool.true_and, Bool.and_false, Bool.false_and, Bool.or_true, Bool.true_or, Bool.or_false, Bool.false_or, decide_true, decide_false, if_true, if_false, ite_true, ite_false, Bool.false_eq_true, and_true, true_and, and_false, false_and, not_true_eq_false, not_false_eq_true]
        · exact ⟨here, ps, _, _, _, _, rfl, f6, Q6.mono (by omega), G6', hh, hhm, hps, hI, by omega, by omega⟩)
    ⟨h0, [], none, none, none, none, rfl, f5, P5.mono (by omega), G5, hh0, by simp at m3; omega, by simp, trivial, by simp, by omega⟩
  have k3 : okR c = true := okR_small (by omega) (by omega)
  have fin : (b__law_far_runs (run pr (k + 2)) [some (.loc d), some (.int 40), none, none, none, none, none, none, none] s).out = .ok (.tup (ps.map encR)) s6 := by
    unfold b__law_far_runs
    simp only [e1, e2, e3, e4, k3, e5, f6, ev_var, ev_var1, ev_c, ev_vout, ev_bin, ev_bin1, ev_bin2, ev_un, ev_un1, ev_lnil, ev_lcons, ev_lcons1, ev_lcons2, ev_ldef, ev_ldef1, ev_lstar, ev_lstar1, ev_lstar1b, ev_lstar2, ev_tup, ev_tup1, ev_lst, ev_lst1, ev_lchk, ev_lchk1, ev_call, ev_call1, ev_g, ev_b, ev_b1, ev_tmp, ev_tmp1, ev_comp, ev_comp1, ev_if, ev_if1t, ev_if1f, ev_bt, ev_bt1, ev_bt2, ev_bv, ev_bv1, ev_bnot, ev_bnot1, ev_band, ev_band1t, ev_band1f, ev_bor, ev_bor1t, ev_bor1f, ev_byes, ev_eand, ev_eand1, ev_eand2t, ev_eand2f, ev_eor, ev_eor1, ev_eor2t, ev_eor2f, ev_enot, ev_enot1, ev_enot2, ev_ch, ev_ch1, ev_ch2, ev_ch3t, ev_ch3f, ev_ch4, ev_m, ev_m1, ev_m2, ev_m3, ev_jo, ev_jo1, ev_jo2, ev_fs, ev_jfn, ev_jfc, ev_jf1, ev_dct, ev_kvn, ev_kvc, ev_kv1, ev_kv2, ev_kv3, ev_dct1, ev_pn, ev_ps, ev_ps1, ev_sl, ev_sl1, ev_sl2, ev_sl3, ev_snil, ev_seq, ev_seqn, ev_seqr, ev_seqb, ev_seqc, ev_seqx, ev_sex, ev_sex1, ev_ret, ev_ret1, ev_retn, ev_sif, ev_sif1t, ev_sif1f, ev_brk, ev_cnt, ev_asg, ev_asg1, ev_gnm, ev_gnil, ev_gcons, ev_gcons1, ev_gtp, ev_gst, ev_gst1, ev_gsub, ev_gsub1, ev_gsub2, ev_gsub3, ev_par, ev_par1, ev_par3, ev_par31, ev_aug, ev_aug1, ev_aug2, ev_aug3, ev_for, ev_for1, ev_lcomp, ev_lcomp1, ev_wipn, ev_wipc, ev_iseq, ev_iseq1, ev_seqt, ev_seqf, ev_seqs, ev_seql, ev_seql1, ev_rg1, ev_rg11, ev_rg2, ev_rg21, ev_en, ev_en1, ev_en2, ev_outr, ev_outn, ev_outx, ev_ixi, ev_ixk, ev_ixl, ev_ixll, ev_ixld, ev_ixkk, ev_ix1, ev_ixt, ev_ixf, vv_oAdd, vv_oAddI, vv_oSub, vv_oLt, vv_oLe, vv_oGt, vv_oGe, vv_oEq, vv_oNe, vv_eqs, vv_nes, vv_eqns, vv_isn, vv_notn, vv_in_non, vv_in_bl, vv_in_int, vv_in_str, vv_in_tup, vv_in_frz, vv_in_loc, vv_neg, vv_tb, vv_ti, vv_tn, vv_tt, vv_tf, vv_mul, vv_div, vv_mod, vv_pow7, vv_pow8, vv_pow9, vv_pow18, vv_pow12, vv_pow6, vv_pow5, vv_pow4, vv_pow10, vv_pow16, vv_abs, vv_min, vv_max, vv_inti, vv_intb, vv_stri, vv_strs, vv_lent, vv_lenf, vv_lens, vv_htup, vv_hlen, vv_is_non_bool, vv_is_non_int, vv_is_non_str, vv_is_non_tuple, vv_is_bl_bool, vv_is_bl_int, vv_is_bl_str, vv_is_bl_tuple, vv_is_int_bool, vv_is_int_int, vv_is_int_str, vv_is_int_tuple, vv_is_str_bool, vv_is_str_int, vv_is_str_str, vv_is_str_tuple, vv_is_tup_bool, vv_is_tup_int, vv_is_tup_str, vv_is_tup_tuple, vv_is_frz_bool, vv_is_frz_int, vv_is_frz_str, vv_is_frz_tuple, vv_iss, vv_items_t, vv_items_f, vv_spl, vv_fmts, vv_fmti, vv_cats, vv_cast0, vv_cast1, vv_cast2, vv_cast3, vv_cast4, vv_cast5, vv_cast6, vv_cast7, vv_cast8, vv_cast9, vv_cast10, vv_cast11, vv_line0, vv_line1, vv_line2, vv_line3, vv_line4, vv_line5, vv_line6, vv_line7, vv_line8, vv_isl, vv_isl1, vv_lenl, vv_lenl1, vv_tupl, vv_tupl1, vv_items_l, vv_items_l1, vv_lst_f, vv_lst_l, vv_lst_l1, vv_app, vv_app1, vv_pop0, vv_pop01, vv_ins0, vv_ins01, vv_mull, vv_mull0, vv_mull1, vv_addl, vv_addl1, vv_slf, vv_slt, List.getElem?_cons_zero, List.getElem?_cons_succ, List.set_cons_zero, List.set_cons_succ, List.map_cons, List.map_nil, List.length_cons, List.length_nil, List.replicate_succ, List.replicate_zero, List.cons_append, List.nil_append, List.append_nil, Option.map_some, Option.map_none, Option.bind_some, Nat.reduceSub, Nat.reduceAdd, Nat.reduceMul, Nat.reduceLeDiff, Nat.zero_le, Int.reduceLT, Int.reduceLE, Int.reduceNeg, Int.reduceAdd, Int.reduceEq, Int.reduceMul, Int.reduceSub, eq_self, Bool.not_true, Bool.not_false, Bool.and_true, Bool.true_and, Bool.and_false, Bool.false_and, Bool.or_true, Bool.true_or, Bool.or_false, Bool.false_or, decide_true, decide_false, if_true, if_false, ite_true, ite_false, Bool.false_eq_true, and_true, true_and, and_false, false_and, not_true_eq_false, not_false_eq_true]
  obtain ⟨s7, e7, F7, P7⟩ := gc_frn (t := .tup (ps.map encR)) G6 P6 (by rw [tup_hi fun _ => rfl]; exact Nat.zero_le _) hd
  exact ⟨ps, s7, (run_eq pr__law_far_runs rfl).trans ((congrArg _ fin).trans e7), P7.mono (by omega), F7, fun x hx => (hps x hx).1, by omega, hI5⟩
end
end K71

set_option maxRecDepth 100000
set_option maxHeartbeats 4000000
namespace K71
open PySem PySem.Spec PyProof.Rows L2 Fx
section
variable {d n k : Nat} {s : Sto} {α : Type} {w : α → Str} {enc : α → T} {encD : α → PyData}
theorem show_all : ∀ {xs : List α}, (∀ x ∈ xs, PyData.showable (encD x) = true) → PyData.showableAll (xs.map encD) = true
  | [], _ => rfl
  | a :: r, h => by
    rw [List.map_cons, PyData.showableAll, h a List.mem_cons_self, show_all fun x hx => h x (List.mem_cons_of_mem _ hx)]
    rfl
theorem short_all : ∀ {xs : List α}, (∀ x ∈ xs, PyData.intsShort 13 (encD x) = true) → PyData.intsShortAll 13 (xs.map encD) = true
  | [], _ => rfl
  | a :: r, h => by
    rw [List.map_cons, PyData.intsShortAll, h a List.mem_cons_self, short_all fun x hx => h x (List.mem_cons_of_mem _ hx)]
    rfl
theorem weight_all {B : Nat} : ∀ {xs : List α}, (∀ x ∈ xs, PyData.weight (encD x) ≤ B) → PyData.weightAll (xs.map encD) ≤ xs.length * (B + 1)
  | [], _ => by simp [PyData.weightAll]
  | a :: r, h => by
    have h1 := h a List.mem_cons_self
    have h2 := weight_all fun x hx => h x (List.mem_cons_of_mem _ hx)
    rw [List.map_cons, PyData.weightAll, List.length_cons, Nat.succ_mul]
    omega
/-- a small datum -/
structure Sm (e : PyData) : Prop where
  sh : PyData.showable e = true
  st : PyData.intsShort 13 e = true
  wt : PyData.weight e ≤ 200
theorem log_small {i : Int} (h : 0 ≤ i) (h2 : i < 10000000000) : i.natAbs.log2 < 34 := by
  by_cases h0 : i.natAbs = 0
  · rw [h0]; decide
  · refine (Nat.log2_lt h0).mpr ?_
    have : (2 : Nat) ^ 34 = 17179869184 := by decide
    omega
theorem sm_int {i : Int} (h : 0 ≤ i) (h2 : i < 10000000000) : PyData.showable (.int i) = true ∧ PyData.intsShort 13 (.int i) = true ∧ PyData.weight (.int i) ≤ 35 := by
  have hl := log_small h h2
  refine ⟨?_, ?_, ?_⟩
  · rw [PyData.showable]; exact decide_eq_true (by omega)
  · rw [PyData.intsShort]
    have e : (PyData.shown (.int i)) = num i := by rw [PyData.shown]
    rw [e]
    exact decide_eq_true (by have := (num_len h h2).2; omega)
  · rw [PyData.weight]; split <;> omega
theorem sm_L {q : Str × Int} (h : okL q) : Sm (dL q) := by
  obtain ⟨h1, h2, h3⟩ := h
  obtain ⟨a1, a2, a3⟩ := sm_int (i := q.2) (by omega) (by omega)
  have hk := kind_len h1
  unfold dL
  refine ⟨?_, ?_, ?_⟩
  · simp [PyData.showable, PyData.showableAll, a1] at *; exact a1
  · simp only [PyData.intsShort, PyData.intsShortAll, Bool.true_and, Bool.and_true] at *; exact a2
  · have e : PyData.weight (.str q.1) = q.1.length := by rw [PyData.weight]; rfl
    rw [PyData.weight, PyData.weightAll, PyData.weightAll, PyData.weightAll, e]; omega
theorem sm_P {q : Int × Int} (h : okP q) : Sm (dP q) := by
  obtain ⟨h1, h2, h3⟩ := h
  obtain ⟨a1, a2, a3⟩ := sm_int (i := q.1) (by omega) (by omega)
  obtain ⟨b1, b2, b3⟩ := sm_int (i := q.2) (by omega) (by omega)
  unfold dP
  refine ⟨?_, ?_, ?_⟩
  · rw [PyData.showable, PyData.showableAll, PyData.showableAll, PyData.showableAll, a1, b1]; rfl
  · rw [PyData.intsShort, PyData.intsShortAll, PyData.intsShortAll, PyData.intsShortAll, a2, b2]; rfl
  · rw [PyData.weight, PyData.weightAll, PyData.weightAll, PyData.weightAll]; omega
theorem sm_R {q : Int × Int × Int} (h : okR' q) : Sm (dR q) := by
  have hc := okR_cnt h
  obtain ⟨h1, h2, h3, h4, h5, h6⟩ := h
  obtain ⟨a1, a2, a3⟩ := sm_int (i := q.1) (by omega) (by omega)
  obtain ⟨b1, b2, b3⟩ := sm_int (i := q.2.1) (by omega) (by omega)
  obtain ⟨c1, c2, c3⟩ := sm_int (i := q.2.2) (by omega) (by omega)
  unfold dR
  refine ⟨?_, ?_, ?_⟩
  · rw [PyData.showable, PyData.showableAll, PyData.showableAll, PyData.showableAll, PyData.showableAll, a1, b1, c1]; rfl
  · rw [PyData.intsShort, PyData.intsShortAll, PyData.intsShortAll, PyData.intsShortAll, PyData.intsShortAll, a2, b2, c2]; rfl
  · rw [PyData.weight, PyData.weightAll, PyData.weightAll, PyData.weightAll, PyData.weightAll]; omega
/-- repr([text, items]) -/
theorem rep_ok {m : Nat} {t : Str} {xs : List α} (g : s.get m = some (.lst [.str t, .tup (xs.map enc)])) (tx : Tx t) (hD : ∀ n s, ∀ x ∈ xs, toD (n + 2) s (enc x) = some (encD x)) (hs : ∀ x ∈ xs, Sm (encD x)) (hl : xs.length ≤ 400) :
    fRepr [.loc m] s = some (.str (PyData.list [.str t, .tuple (xs.map encD)]).shown, s) := by
  have so : PyData.strOk t = true := strOk_of tx.ok
  have e1 : toD DEEP s (.loc m) = some (.list [.str t, .tuple (xs.map encD)]) := by
    show toD (29 + 1) s _ = _
    rw [toD]
    simp only [g]
    have t1 : toD 29 s (.str t) = some (.str t) := by
      show toD (28 + 1) s _ = _
      rw [toD, so]; rfl
    have t2 : toD 29 s (.tup (xs.map enc)) = some (.tuple (xs.map encD)) := toD_tup (n := 28) fun x hx => hD 26 s x hx
    rw [mapO, t1, mapO, t2, mapO]
    rfl
  obtain ⟨c1, c2⟩ := toD_ok _ _ _ _ e1
  have sh : (PyData.list [.str t, .tuple (xs.map encD)]).showable = true := by
    rw [PyData.showable, PyData.showableAll, PyData.showableAll, PyData.showableAll, PyData.showable, PyData.showable, show_all fun x hx => (hs x hx).sh]
    rfl
  have st : (PyData.list [.str t, .tuple (xs.map encD)]).intsShort 13 = true := by
    rw [PyData.intsShort, PyData.intsShortAll, PyData.intsShortAll, PyData.intsShortAll, PyData.intsShort, PyData.intsShort, short_all fun x hx => (hs x hx).st]
    rfl
  have wt : (PyData.list [.str t, .tuple (xs.map encD)]).weight ≤ 2 ^ 20 := by
    have h1 := weight_all (encD := encD) (xs := xs) fun x hx => (hs x hx).wt
    have h2 := tx.ln
    have e : PyData.weight (.str t) = t.length := by rw [PyData.weight]; rfl
    have e20 : (2 : Nat) ^ 20 = 1048576 := by decide
    rw [PyData.weight, PyData.weightAll, PyData.weightAll, PyData.weightAll, e, PyData.weight]
    omega
  have ln := PyData.shown_le_of_layable0 (d := PyData.list [.str t, .tuple (xs.map encD)]) (by
    unfold PyData.layable0
    simp only [Bool.and_eq_true, decide_eq_true_eq]
    exact ⟨⟨c1, Nat.le_trans c2 (by decide)⟩, wt⟩) st
  unfold fRepr
  simp only [e1]
  exact if_pos ⟨rfl, sh, by rw [sizeLine_eq]; omega⟩
end
end K71

set_option maxRecDepth 100000
set_option maxHeartbeats 8000000
namespace K71
open PySem PySem.Spec PyProof.Rows L2 Fx
noncomputable def tB (C : CallT) : Sv := (sSeq (sAsg (eTmp hTup (lComp (iRg1 (lCons (eCall C "_law_draw" (lDef (lCons (eVar 1) (lCons (eC (.int 7)) lNil)) [])) lNil)) (gNm 9) bYes (eCall C "_law_lamp" (lDef (lCons (eVar 1) (lCons (eBin oPow (eC (.int 10)) (eC (.int 9))) lNil)) [])) [9])) (gNm 3))
  (sSeq (sPar 4 5 (lCons (eG (eCall C "_law_log" (lDef (lCons (eVar 1) (lCons (eC (.int 60)) (lCons (eG (eCall C "_law_one" (lDef (lCons (eVar 1) (lCons (eLst (lCons (eC (.int 4)) (lCons (eBin oPow (eC (.int 10)) (eC (.int 7))) lNil))) lNil)) []))) lNil))) []))) (lCons (eCall C "_law_far_runs" (lDef (lCons (eVar 1) (lCons (eC (.int 40)) lNil)) [])) lNil)))
  (sSeq (sAsg (eCall C "_law_lamps_text" (lDef (lCons (eVar 3) lNil) [])) (gNm 6))
  (sSeq (sIf (bV (eBin oNe (eB fRepr (lCons (eLst (lCons (eCall C "lamps_text" (lDef (lCons (eVar 3) lNil) [])) (lCons (eCall C "parse_lamps" (lDef (lCons (eVar 6) lNil) [])) lNil))) lNil)) (eB fRepr (lCons (eLst (lCons (eVar 6) (lCons (eVar 3) lNil))) lNil)))) (sRet (eC (.bl false))) sNil)
  (sSeq (sAsg (eCall C "_law_log_text" (lDef (lCons (eVar 4) lNil) [])) (gNm 6))
  (sSeq (sIf (bV (eBin oNe (eB fRepr (lCons (eLst (lCons (eCall C "log_text" (lDef (lCons (eVar 4) lNil) [])) (lCons (eCall C "parse_log" (lDef (lCons (eVar 6) lNil) [])) lNil))) lNil)) (eB fRepr (lCons (eLst (lCons (eVar 6) (lCons (eVar 4) lNil))) lNil)))) (sRet (eC (.bl false))) sNil)
  (sSeq (sAsg (eCall C "_law_runs_text" (lDef (lCons (eVar 5) lNil) [])) (gNm 6))
  (sIf (bV (eBin oNe (eB fRepr (lCons (eLst (lCons (eCall C "motions_text" (lDef (lCons (eVar 5) lNil) [])) (lCons (eCall C "parse_motions" (lDef (lCons (eVar 6) lNil) [])) lNil))) lNil)) (eB fRepr (lCons (eLst (lCons (eVar 6) (lCons (eVar 5) lNil))) lNil)))) (sRet (eC (.bl false))) sNil))))))))
noncomputable def restL (C : CallT) : Sv := (sSeq (sAsg (eBin oAdd (eC (.int 1)) (eCall C "_law_draw" (lDef (lCons (eVar 1) (lCons (eC (.int 9)) lNil)) []))) (gNm 7))
  (sSeq (sAsg (eTmp hTup (lComp (iRg1 (lCons (eC (.int 360)) lNil)) (gNm 9) bYes (eIf (bV (eBin oGt (eBin oMod (eVar 9) (eC (.int 3))) (eC (.int 0)))) (eTup (lCons (eBin oMul (eC (.int 60)) (eVar 9)) (lCons (eVar 7) (lCons (eBin oAdd (eC (.int 1)) (eBin oMod (eVar 9) (eC (.int 3)))) lNil)))) (eTup (lCons (eBin oMul (eC (.int 60)) (eVar 9)) (lCons (eC (.int 1)) (lCons (eC (.int 1)) lNil))))) [9])) (gNm 8))
  (sRet (eAnd (eBin oEq (eCall C "parse_motions" (lDef (lCons (eCall C "_law_runs_text" (lDef (lCons (eVar 8) lNil) [])) lNil) [])) (eVar 8)) (eBin oEq (eCall C "motions_text" (lDef (lCons (eVar 8) lNil) [])) (eCall C "_law_runs_text" (lDef (lCons (eVar 8) lNil) [])))))))
theorem law_eq (C : CallT) : b_law C = sSeq (sAsg (eCall C "_law_opened" (lDef (lCons (eVar 0) lNil) [])) (gNm 1)) (sSeq (sFor (iRg1 (lCons (eC (.int 10)) lNil)) (gNm 2) (tB C)) (restL C)) := rfl
section
variable {d n k : Nat} {s : Sto}
theorem turn_spec {sc t : T} {x3 x4 x5 x6 x7 x8 x9 : Option T} (P : Pot d n s) (hn : n + 100000 ≤ NB) :
    ∃ s' y3 y4 y5 y6 y7 y8 y9, tB (run pr (k + 4)) [some sc, some (.loc d), some t, x3, x4, x5, x6, x7, x8, x9] s = .nx [some sc, some (.loc d), some t, y3, y4, y5, y6, y7, y8, y9] s' ∧ Pot d (n + 10000) s' := by
  unfold NB at hn
  -- lamps
  obtain ⟨c, s1, e1, a1, b1, P1, F1⟩ := draw_spec (k := k + 3) (many := 7) pr__law_draw P (by omega) (by decide) (by decide)
  have k1 : okR c = true := okR_small (by omega) (by omega)
  have hc7 : (rgT 0 c).length ≤ 6 := by simp [rgT]; omega
  obtain ⟨ys, s2, e2, P2, hys, hyl⟩ := compL_at (ts := rgT 0 c) (I := fun i s' => Pot d (n + 1 + 5 * i) s') (P := fun y => ∃ q, y = encL q ∧ okL q) (chk := chkT) (g := gNm 9) (e := eCall (run pr (k + 4)) "_law_lamp" (lDef (lCons (eVar 1) (lCons (eBin oPow (eC (.int 10)) (eC (.int 9))) lNil)) [])) (r0 := [some sc, some (.loc d), some t, x3, x4, x5, x6, x7, x8, none]) (fun _ _ _ => rfl) (fun i u s' hu hI => by
      have hi : i < (rgT 0 c).length := (List.getElem?_eq_some_iff.mp hu).1
      obtain ⟨q, s3, e3, P3, F3, hq⟩ := lamp_spec (k := k + 1) hI (by unfold NB; omega)
      exact ⟨[some sc, some (.loc d), some t, x3, x4, x5, x6, x7, x8, some u], encL q, s3, by simp only [ev_var, ev_var1, ev_c, ev_vout, ev_bin, ev_bin1, ev_bin2, ev_un, ev_un1, ev_lnil, ev_lcons, ev_lcons1, ev_lcons2, ev_ldef, ev_ldef1, ev_lstar, ev_lstar1, ev_lstar1b, ev_lstar2, ev_tup, ev_tup1, ev_lst, ev_lst1, ev_lchk, ev_lchk1, ev_call, ev_call1, ev_g, ev_b, ev_b1, ev_tmp, ev_tmp1, ev_comp, ev_comp1, ev_if, ev_if1t, ev_if1f, ev_bt, ev_bt1, ev_bt2, ev_bv, ev_bv1, ev_bnot, ev_bnot1, ev_band, ev_band1t, ev_band1f, ev_bor, ev_bor1t, ev_bor1f, ev_byes, ev_eand, ev_eand1, ev_eand2t, ev_eand2f, ev_eor, ev_eor1, ev_eor2t, ev_eor2f, ev_enot, ev_enot1, ev_enot2, ev_ch, ev_ch1, ev_ch2, ev_ch3t, ev_ch3f, ev_ch4, ev_m, ev_m1, ev_m2, ev_m3, ev_jo, ev_jo1, ev_jo2, ev_fs, ev_jfn, ev_jfc, ev_jf1, ev_dct, ev_kvn, ev_kvc, ev_kv1, ev_kv2, ev_kv3, ev_dct1, ev_pn, ev_ps, ev_ps1, ev_sl, ev_sl1, ev_sl2, ev_sl3, ev_snil, ev_seq, ev_seqn, ev_seqr, ev_seqb, ev_seqc, ev_seqx, ev_sex, ev_sex1, ev_ret, ev_ret1, ev_retn, ev_sif, ev_sif1t, ev_sif1f, ev_brk, ev_cnt, ev_asg, ev_asg1, ev_gnm, ev_gnil, ev_gcons, ev_gcons1, ev_gtp, ev_gst, ev_gst1, ev_gsub, ev_gsub1, ev_gsub2, ev_gsub3, ev_par, ev_par1, ev_par3, ev_par31, ev_aug, ev_aug1, ev_aug2, ev_aug3, ev_for, ev_for1, ev_lcomp, ev_lcomp1, ev_wipn, ev_wipc, ev_iseq, ev_iseq1, ev_seqt, ev_seqf, ev_seqs, ev_seql, ev_seql1, ev_rg1, ev_rg11, ev_rg2, ev_rg21, ev_en, ev_en1, ev_en2, ev_outr, ev_outn, ev_outx, ev_ixi, ev_ixk, ev_ixl, ev_ixll, ev_ixld, ev_ixkk, ev_ix1, ev_ixt, ev_ixf, vv_oAdd, vv_oAddI, vv_oSub, vv_oLt, vv_oLe, vv_oGt, vv_oGe, vv_oEq, vv_oNe, vv_eqs, vv_nes, vv_eqns, vv_isn, vv_notn, vv_in_non, vv_in_bl, vv_in_int, vv_in_str, vv_in_tup, vv_in_frz, vv_in_loc, vv_neg, vv_tb, vv_ti, vv_tn, vv_tt, vv_tf, vv_mul, vv_div, vv_mod, vv_pow7, vv_pow8, vv_pow9, vv_pow18, vv_pow12, vv_pow6, vv_pow5, vv_pow4, vv_pow10, vv_pow16, vv_abs, vv_min, vv_max, vv_inti, vv_intb, vv_stri, vv_strs, vv_lent, vv_lenf, vv_lens, vv_htup, vv_hlen, vv_is_non_bool, vv_is_non_int, vv_is_non_str, vv_is_non_tuple, vv_is_bl_bool, vv_is_bl_int, vv_is_bl_str, vv_is_bl_tuple, vv_is_int_bool, vv_is_int_int, vv_is_int_str, vv_is_int_tuple, vv_is_str_bool, vv_is_str_int, vv_is_str_str, vv_is_str_tuple, vv_is_tup_bool, vv_is_tup_int, vv_is_tup_str, vv_is_tup_tuple, vv_is_frz_bool, vv_is_frz_int, vv_is_frz_str, vv_is_frz_tuple, vv_iss, vv_items_t, vv_items_f, vv_spl, vv_fmts, vv_fmti, vv_cats, vv_cast0, vv_cast1, vv_cast2, vv_cast3, vv_cast4, vv_cast5, vv_cast6, vv_cast7, vv_cast8, vv_cast9, vv_cast10, vv_cast11, vv_line0, vv_line1, vv_line2, vv_line3, vv_line4, vv_line5, vv_line6, vv_line7, vv_line8, vv_isl, vv_isl1, vv_lenl, vv_lenl1, vv_tupl, vv_tupl1, vv_items_l, vv_items_l1, vv_lst_f, vv_lst_l, vv_lst_l1, vv_app, vv_app1, vv_pop0, vv_pop01, vv_ins0, vv_ins01, vv_mull, vv_mull0, vv_mull1, vv_addl, vv_addl1, vv_slf, vv_slt, List.getElem?_cons_zero, List.getElem?_cons_succ, List.set_cons_zero, List.set_cons_succ, List.map_cons, List.map_nil, List.length_cons, List.length_nil, List.replicate_succ, List.replicate_zero, List.cons_append, List.nil_append, List.append_nil, Option.map_some, Option.map_none, Option.bind_some, Nat.reduceSub, Nat.reduceAdd, Nat.reduceMul, Nat.reduceLeDiff, Nat.zero_le, Int.reduceLT, Int.reduceLE, Int.reduceNeg, Int.reduceAdd, Int.reduceEq, Int.reduceMul, Int.reduceSub, eq_self, Bool.not_true, Bool.not_false, Bool.and_true, Bool.true_and, Bool.and_false, Bool.false_and, Bool.or_true, Bool.true_or, Bool.or_false, Bool.false_or, decide_true, decide_false, if_true, if_false, ite_true, ite_false, Bool.false_eq_true, and_true, true_and, and_false, false_and, not_true_eq_false, not_false_eq_true], by simp only [e3, ev_var, ev_var1, ev_c, ev_vout, ev_bin, ev_bin1, ev_bin2, ev_un, ev_un1, ev_lnil, ev_lcons, ev_lcons1, ev_lcons2, ev_ldef, ev_ldef1, ev_lstar, ev_lstar1, ev_lstar1b, ev_lstar2, ev_tup, ev_tup1, ev_lst, ev_lst1, ev_lchk, ev_lchk1, ev_call, ev_call1, ev_g, ev_b, ev_b1, ev_tmp, ev_tmp1, ev_comp, ev_comp1, ev_if, ev_if1t, ev_if1f, ev_bt, ev_bt1, ev_bt2, ev_bv, ev_bv1, ev_bnot, ev_bnot1, ev_band, ev_band1t, ev_band1f, ev_bor, ev_bor1t, ev_bor1f, ev_byes, ev_eand, ev_eand1, ev_eand2t, ev_eand2f, ev_eor, ev_eor1, ev_eor2t, ev_eor2f, ev_enot, ev_enot1, ev_enot2, ev_ch, ev_ch1, ev_ch2, ev_ch3t, ev_ch3f, ev_ch4, ev_m, ev_m1, ev_m2, ev_m3, ev_jo, ev_jo1, ev_jo2, ev_fs, ev_jfn, ev_jfc, ev_jf1, ev_dct, ev_kvn, ev_kvc, ev_kv1, ev_kv2, ev_kv3, ev_dct1, ev_pn, ev_ps, ev_ps1, ev_sl, ev_sl1, ev_sl2, ev_sl3, ev_snil, ev_seq, ev_seqn, ev_seqr, ev_seqb, ev_seqc, ev_seqx, ev_sex, ev_sex1, ev_ret, ev_ret1, ev_retn, ev_sif, ev_sif1t, ev_sif1f, ev_brk, ev_cnt, ev_asg, ev_asg1, ev_gnm, ev_gnil, ev_gcons, ev_gcons1, ev_gtp, ev_gst, ev_gst1, ev_gsub, ev_gsub1, ev_gsub2, ev_gsub3, ev_par, ev_par1, ev_par3, ev_par31, ev_aug, ev_aug1, ev_aug2, ev_aug3, ev_for, ev_for1, ev_lcomp, ev_lcomp1, ev_wipn, ev_wipc, ev_iseq, ev_iseq1, ev_seqt, ev_seqf, ev_seqs, ev_seql, ev_seql1, ev_rg1, ev_rg11, ev_rg2, ev_rg21, ev_en, ev_en1, ev_en2, ev_outr, ev_outn, ev_outx, ev_ixi, ev_ixk, ev_ixl, ev_ixll, ev_ixld, ev_ixkk, ev_ix1, ev_ixt, ev_ixf, vv_oAdd, vv_oAddI, vv_oSub, vv_oLt, vv_oLe, vv_oGt, vv_oGe, vv_oEq, vv_oNe, vv_eqs, vv_nes, vv_eqns, vv_isn, vv_notn, vv_in_non, vv_in_bl, vv_in_int, vv_in_str, vv_in_tup, vv_in_frz, vv_in_loc, vv_neg, vv_tb, vv_ti, vv_tn, vv_tt, vv_tf, vv_mul, vv_div, vv_mod, vv_pow7, vv_pow8, vv_pow9, vv_pow18, vv_pow12, vv_pow6, vv_pow5, vv_pow4, vv_pow10, vv_pow16, vv_abs, vv_min, vv_max, vv_inti, vv_intb, vv_stri, vv_strs, vv_lent, vv_lenf, vv_lens, vv_htup, vv_hlen, vv_is_non_bool, vv_is_non_int, vv_is_non_str, vv_is_non_tuple, vv_is_bl_bool, vv_is_bl_int, vv_is_bl_str, vv_is_bl_tuple, vv_is_int_bool, vv_is_int_int, vv_is_int_str, vv_is_int_tuple, vv_is_str_bool, vv_is_str_int, vv_is_str_str, vv_is_str_tuple, vv_is_tup_bool, vv_is_tup_int, vv_is_tup_str, vv_is_tup_tuple, vv_is_frz_bool, vv_is_frz_int, vv_is_frz_str, vv_is_frz_tuple, vv_iss, vv_items_t, vv_items_f, vv_spl, vv_fmts, vv_fmti, vv_cats, vv_cast0, vv_cast1, vv_cast2, vv_cast3, vv_cast4, vv_cast5, vv_cast6, vv_cast7, vv_cast8, vv_cast9, vv_cast10, vv_cast11, vv_line0, vv_line1, vv_line2, vv_line3, vv_line4, vv_line5, vv_line6, vv_line7, vv_line8, vv_isl, vv_isl1, vv_lenl, vv_lenl1, vv_tupl, vv_tupl1, vv_items_l, vv_items_l1, vv_lst_f, vv_lst_l, vv_lst_l1, vv_app, vv_app1, vv_pop0, vv_pop01, vv_ins0, vv_ins01, vv_mull, vv_mull0, vv_mull1, vv_addl, vv_addl1, vv_slf, vv_slt, List.getElem?_cons_zero, List.getElem?_cons_succ, List.set_cons_zero, List.set_cons_succ, List.map_cons, List.map_nil, List.length_cons, List.length_nil, List.replicate_succ, List.replicate_zero, List.cons_append, List.nil_append, List.append_nil, Option.map_some, Option.map_none, Option.bind_some, Nat.reduceSub, Nat.reduceAdd, Nat.reduceMul, Nat.reduceLeDiff, Nat.zero_le, Int.reduceLT, Int.reduceLE, Int.reduceNeg, Int.reduceAdd, Int.reduceEq, Int.reduceMul, Int.reduceSub, eq_self, Bool.not_true, Bool.not_false, Bool.and_true, Bool.true_and, Bool.and_false, Bool.false_and, Bool.or_true, Bool.true_or, Bool.or_false, Bool.false_or, decide_true, decide_false, if_true, if_false, ite_true, ite_false, Bool.false_eq_true, and_true, true_and, and_false, false_and, not_true_eq_false, not_false_eq_true], P3.mono (by omega), q, rfl, hq⟩) (rgT 0 c) [] 0 s1 rfl (Nat.zero_le _) P1 (by simp [sizeLine_eq]; omega)
  obtain ⟨lamps, rfl, hlamps⟩ := list_dec hys
  simp only [List.nil_append] at e2
  have hll : lamps.length ≤ 6 := by rw [List.length_map] at hyl; omega
  have P2 : Pot d (n + 100) s2 := P2.mono (by omega)
  -- log
  obtain ⟨gr, s3, e3, m3, P3, F3⟩ := one_ints (k := k + 2) (us := [4, 10000000]) pr__law_draw pr__law_one P2 Frm.refl (by omega) (by simp) (by simp)
  simp only [List.map_cons, List.map_nil] at e3
  have hgr : gr = 4 ∨ gr = 10000000 := by simpa using m3
  obtain ⟨log, s4, e4, P4, F4, hlog, hlogl, hlogI⟩ := log_spec (k := k + 1) (great := gr) P3 (by unfold NB; omega) (by omega) (by omega)
  obtain ⟨s5, e5, F5, P5⟩ := gc_frn (t := .tup (log.map encP)) (F3.trans F4).frn P4 (by rw [tup_hi fun _ => rfl]; exact Nat.zero_le _) P2.lt
  -- runs
  obtain ⟨runs, s6, e6, P6, F6, hruns, hrunsl, hrunsI⟩ := runs_spec (k := k + 1) P5 (by unfold NB; omega)
  -- texts
  have lt1 := fun s => law_lamps_text_ok (k := k + 3) (s := s) hlamps (by omega)
  have lt2 := fun s => lamps_text_ok (k := k + 2) (s := s) hlamps (by omega)
  have lt3 := fun s => parse_lamps_ok (k := k) (s := s) hlamps hll
  have gt1 := fun s => law_log_text_ok (k := k + 3) (s := s) hlog (by omega)
  have gt2 := fun s => log_text_ok (k := k + 2) (s := s) hlog (by omega)
  have gt3 := fun s => parse_log_ok (k := k) (s := s) hlog hlogl hlogI
  have rt1 := fun s => law_runs_text_ok (k := k + 3) (s := s) hruns (by omega)
  have rt2 := fun s => motions_text_ok (k := k + 2) (s := s) hruns (by omega)
  have rt3 := fun s => parse_motions_ok (k := k) (s := s) hruns (by omega) hrunsI
  have txL := tx_of (w := wL) (xs := lamps) (fun x hx => wd_L (hlamps x hx)) (by omega)
  have txP := tx_of (w := wP) (xs := log) (fun x hx => wd_P (hlog x hx)) (by omega)
  have txR := tx_of (w := wR) (xs := runs) (fun x hx => wd_R (hruns x hx)) (by omega)
  have rL := fun s : Sto => rep_ok (encD := dL) (get_add (s := s) (o := .lst [.str (textOf wL lamps), .tup (lamps.map encL)])) txL (fun n s x hx => toD_L (hlamps x hx)) (fun x hx => sm_L (hlamps x hx)) (by omega)
  have rP := fun s : Sto => rep_ok (encD := dP) (get_add (s := s) (o := .lst [.str (textOf wP log), .tup (log.map encP)])) txP (fun n s x hx => toD_P) (fun x hx => sm_P (hlog x hx)) (by omega)
  have rR := fun s : Sto => rep_ok (encD := dR) (get_add (s := s) (o := .lst [.str (textOf wR runs), .tup (runs.map encR)])) txR (fun n s x hx => toD_R) (fun x hx => sm_R (hruns x hx)) (by omega)
  let A : O := .lst [.str (textOf wL lamps), .tup (lamps.map encL)]
  let B : O := .lst [.str (textOf wP log), .tup (log.map encP)]
  let R : O := .lst [.str (textOf wR runs), .tup (runs.map encR)]
  refine ⟨(((((s6.add A).add A).add B).add B).add R).add R, some (.tup (lamps.map encL)), some (.tup (log.map encP)), some (.tup (runs.map encR)), some (.str (textOf wR runs)), x7, x8, x9, ?_, ?_⟩
  · unfold tB
    simp only [e1, k1, e2, e3, e4, e5, e6, lt1, lt2, lt3, rL, gt1, gt2, gt3, rP, rt1, rt2, rt3, rR, ev_var, ev_var1, ev_c, ev_vout, ev_bin, ev_bin1, ev_bin2, ev_un, ev_un1, ev_lnil, ev_lcons, ev_lcons1, ev_lcons2, ev_ldef, ev_ldef1, ev_lstar, ev_lstar1, ev_lstar1b, ev_lstar2, ev_tup, ev_tup1, ev_lst, ev_lst1, ev_lchk, ev_lchk1, ev_call, ev_call1, ev_g, ev_b, ev_b1, ev_tmp, ev_tmp1, ev_comp, ev_comp1, ev_if, ev_if1t, ev_if1f, ev_bt, ev_bt1, ev_bt2, ev_bv, ev_bv1, ev_bnot, ev_bnot1, ev_band, ev_band1t, ev_band1f, ev_bor, ev_bor1t, ev_bor1f, ev_byes, ev_eand, ev_eand1, ev_eand2t, ev_eand2f, ev_eor, ev_eor1, ev_eor2t, ev_eor2f, ev_enot, ev_enot1, ev_enot2, ev_ch, ev_ch1, ev_ch2, ev_ch3t, ev_ch3f, ev_ch4, ev_m, ev_m1, ev_m2, ev_m3, ev_jo, ev_jo1, ev_jo2, ev_fs, ev_jfn, ev_jfc, ev_jf1, ev_dct, ev_kvn, ev_kvc, ev_kv1, ev_kv2, ev_kv3, ev_dct1, ev_pn, ev_ps, ev_ps1, ev_sl, ev_sl1, ev_sl2, ev_sl3, ev_snil, ev_seq, ev_seqn, ev_seqr, ev_seqb, ev_seqc, ev_seqx, ev_sex, ev_sex1, ev_ret, ev_ret1, ev_retn, ev_sif, ev_sif1t, ev_sif1f, ev_brk, ev_cnt, ev_asg, ev_asg1, ev_gnm, ev_gnil, ev_gcons, ev_gcons1, ev_gtp, ev_gst, ev_gst1, ev_gsub, ev_gsub1, ev_gsub2, ev_gsub3, ev_par, ev_par1, ev_par3, ev_par31, ev_aug, ev_aug1, ev_aug2, ev_aug3, ev_for, ev_for1, ev_lcomp, ev_lcomp1, ev_wipn, ev_wipc, ev_iseq, ev_iseq1, ev_seqt, ev_seqf, ev_seqs, ev_seql, ev_seql1, ev_rg1, ev_rg11, ev_rg2, ev_rg21, ev_en, ev_en1, ev_en2, ev_outr, ev_outn, ev_outx, ev_ixi, ev_ixk, ev_ixl, ev_ixll, ev_ixld, ev_ixkk, ev_ix1, ev_ixt, ev_ixf, vv_oAdd, vv_oAddI, vv_oSub, vv_oLt, vv_oLe, vv_oGt, vv_oGe, vv_oEq, vv_oNe, vv_eqs, vv_nes, vv_eqns, vv_isn, vv_notn, vv_in_non, vv_in_bl, vv_in_int, vv_in_str, vv_in_tup, vv_in_frz, vv_in_loc, vv_neg, vv_tb, vv_ti, vv_tn, vv_tt, vv_tf, vv_mul, vv_div, vv_mod, vv_pow7, vv_pow8, vv_pow9, vv_pow18, vv_pow12, vv_pow6, vv_pow5, vv_pow4, vv_pow10, vv_pow16, vv_abs, vv_min, vv_max, vv_inti, vv_intb, vv_stri, vv_strs, vv_lent, vv_lenf, vv_lens, vv_htup, vv_hlen, vv_is_non_bool, vv_is_non_int, vv_is_non_str, vv_is_non_tuple, vv_is_bl_bool, vv_is_bl_int, vv_is_bl_str, vv_is_bl_tuple, vv_is_int_bool, vv_is_int_int, vv_is_int_str, vv_is_int_tuple, vv_is_str_bool, vv_is_str_int, vv_is_str_str, vv_is_str_tuple, vv_is_tup_bool, vv_is_tup_int, vv_is_tup_str, vv_is_tup_tuple, vv_is_frz_bool, vv_is_frz_int, vv_is_frz_str, vv_is_frz_tuple, vv_iss, vv_items_t, vv_items_f, vv_spl, vv_fmts, vv_fmti, vv_cats, vv_cast0, vv_cast1, vv_cast2, vv_cast3, vv_cast4, vv_cast5, vv_cast6, vv_cast7, vv_cast8, vv_cast9, vv_cast10, vv_cast11, vv_line0, vv_line1, vv_line2, vv_line3, vv_line4, vv_line5, vv_line6, vv_line7, vv_line8, vv_isl, vv_isl1, vv_lenl, vv_lenl1, vv_tupl, vv_tupl1, vv_items_l, vv_items_l1, vv_lst_f, vv_lst_l, vv_lst_l1, vv_app, vv_app1, vv_pop0, vv_pop01, vv_ins0, vv_ins01, vv_mull, vv_mull0, vv_mull1, vv_addl, vv_addl1, vv_slf, vv_slt, List.getElem?_cons_zero, List.getElem?_cons_succ, List.set_cons_zero, List.set_cons_succ, List.map_cons, List.map_nil, List.length_cons, List.length_nil, List.replicate_succ, List.replicate_zero, List.cons_append, List.nil_append, List.append_nil, Option.map_some, Option.map_none, Option.bind_some, Nat.reduceSub, Nat.reduceAdd, Nat.reduceMul, Nat.reduceLeDiff, Nat.zero_le, Int.reduceLT, Int.reduceLE, Int.reduceNeg, Int.reduceAdd, Int.reduceEq, Int.reduceMul, Int.reduceSub, eq_self, Bool.not_true, Bool.not_false, Bool.and_true, Bool.true_and, Bool.and_false, Bool.false_and, Bool.or_true, Bool.true_or, Bool.or_false, Bool.false_or, decide_true, decide_false, if_true, if_false, ite_true, ite_false, Bool.false_eq_true, and_true, true_and, and_false, false_and, not_true_eq_false, not_false_eq_true]
    rfl
  · exact (((((P6.add.add).add).add).add).add).mono (by omega)
/-- the runs of the law's end -/
def fR (st : Int) (k : Nat) : Int × Int × Int := if 0 < (0 + (k : Int)) % 3 then (60 * (0 + (k : Int)), st, 1 + (0 + (k : Int)) % 3) else (60 * (0 + (k : Int)), 1, 1)
theorem fR_end {st : Int} {k : Nat} (h1 : 1 ≤ st) (h2 : st ≤ 9) : (fR st k).1 = 60 * (k : Int) ∧ endR (fR st k) ≤ 60 * (k : Int) + 18 ∧ 60 * (k : Int) ≤ endR (fR st k) := by
  unfold fR endR
  by_cases h : 0 < (0 + (k : Int)) % 3
  · have e : (1 : Int) + (0 + (k : Int)) % 3 - 1 = (0 + (k : Int)) % 3 := by omega
    have l : (0 + (k : Int)) % 3 = 1 ∨ (0 + (k : Int)) % 3 = 2 := by omega
    simp only [h, if_true, e]
    rcases l with l | l
    · rw [l]; omega
    · rw [l]; omega
  · simp only [h, if_false]; omega
theorem fR_ok {st : Int} {k : Nat} (h1 : 1 ≤ st) (h2 : st ≤ 9) (hk : k < 360) : okR' (fR st k) := by
  obtain ⟨e1, e2, e3⟩ := fR_end (k := k) h1 h2
  refine ⟨by omega, ?_, ?_, ?_, by omega, fun h => ?_⟩
  · unfold fR; split <;> simp only <;> omega
  · unfold fR; split <;> simp only <;> omega
  · unfold fR; split <;> simp only <;> omega
  · revert h; unfold fR; split
    · intro h; simp only at h; omega
    · intro h; rfl
theorem inc_range {st : Int} (h1 : 1 ≤ st) (h2 : st ≤ 9) : ∀ (m a : Nat) (b : Int), b < 60 * (a : Int) → Inc (fun q : Int × Int × Int => q.1) endR b ((List.range' a m).map (fR st))
  | 0, _, _, _ => trivial
  | m + 1, a, b, h => by
    obtain ⟨e1, e2, e3⟩ := fR_end (k := a) h1 h2
    exact ⟨by show b < (fR st a).1; rw [e1]; exact h, inc_range h1 h2 m (a + 1) _ (by omega)⟩
theorem eqv_all : ∀ l : List (Int × Int × Int), PyData.eqvAll (l.map dR) (l.map dR) = true
  | [] => rfl
  | a :: r => by
    rw [List.map_cons, PyData.eqvAll, eqv_all r]
    simp [dR, PyData.eqv, PyData.eqvAll]
theorem eq_self_tup {xs : List (Int × Int × Int)} : oEq (.tup (xs.map encR)) (.tup (xs.map encR)) s = some (.bl true, s) := by
  show (Fx.eqT s _ _).map _ = _
  have : Fx.eqT s (.tup (xs.map encR)) (.tup (xs.map encR)) = some true := by
    have t1 : toD DEEP s (.tup (xs.map encR)) = some (.tuple (xs.map dR)) := toD_tup (n := 29) fun x _ => toD_R (n := 27)
    unfold Fx.eqT
    simp only [eqS, t1, PyData.eqv, eqv_all]
  rw [this]; rfl
theorem rest_spec {sc t : T} {x3 x4 x5 x6 x7 x8 x9 : Option T} (P : Pot d n s) (hn : n + 100000 ≤ NB) :
    ∃ s', (restL (run pr (k + 4)) [some sc, some (.loc d), some t, x3, x4, x5, x6, x7, x8, x9] s).out = .ok (.bl true) s' := by
  unfold NB at hn
  obtain ⟨c, s1, e1, a1, b1, P1, F1⟩ := draw_spec (k := k + 3) (many := 9) pr__law_draw P (by omega) (by decide) (by decide)
  have k1 : okR (360 : Int) = true := by decide
  obtain ⟨xs, hxs⟩ : ∃ xs, xs = (List.range 360).map (fR (1 + c)) := ⟨_, rfl⟩
  have hok : ∀ x ∈ xs, okR' x := fun x hx => by
    rw [hxs] at hx
    obtain ⟨j, hj, rfl⟩ := List.mem_map.mp hx
    exact fR_ok (by omega) (by omega) (List.mem_range.mp hj)
  have hl : xs.length = 360 := by rw [hxs]; simp
  have hI : Inc (fun q : Int × Int × Int => q.1) endR (-1) xs := by
    rw [hxs, List.range_eq_range']
    exact inc_range (by omega) (by omega) 360 0 (-1) (by omega)
  have c1 : compL chkT (gNm 9) bYes (eIf (bV (eBin oGt (eBin oMod (eVar 9) (eC (.int 3))) (eC (.int 0)))) (eTup (lCons (eBin oMul (eC (.int 60)) (eVar 9)) (lCons (eVar 7) (lCons (eBin oAdd (eC (.int 1)) (eBin oMod (eVar 9) (eC (.int 3)))) lNil)))) (eTup (lCons (eBin oMul (eC (.int 60)) (eVar 9)) (lCons (eC (.int 1)) (lCons (eC (.int 1)) lNil))))) [some sc, some (.loc d), some t, x3, x4, x5, x6, some (.int (1 + c)), x8, none] ((List.range 360).map fun j : Nat => T.int (0 + (j : Int))) [] s1 = .ok ([] ++ (List.range 360).map fun j => encR (fR (1 + c) j)) s1 :=
    compL_map rfl (List.range 360) [] (fun j hj => ⟨[some sc, some (.loc d), some t, x3, x4, x5, x6, some (.int (1 + c)), x8, some (.int (0 + (j : Int)))], by simp only [ev_var, ev_var1, ev_c, ev_vout, ev_bin, ev_bin1, ev_bin2, ev_un, ev_un1, ev_lnil, ev_lcons, ev_lcons1, ev_lcons2, ev_ldef, ev_ldef1, ev_lstar, ev_lstar1, ev_lstar1b, ev_lstar2, ev_tup, ev_tup1, ev_lst, ev_lst1, ev_lchk, ev_lchk1, ev_call, ev_call1, ev_g, ev_b, ev_b1, ev_tmp, ev_tmp1, ev_comp, ev_comp1, ev_if, ev_if1t, ev_if1f, ev_bt, ev_bt1, ev_bt2, ev_bv, ev_bv1, ev_bnot, ev_bnot1, ev_band, ev_band1t, ev_band1f, ev_bor, ev_bor1t, ev_bor1f, ev_byes, ev_eand, ev_eand1, ev_eand2t, ev_eand2f, ev_eor, ev_eor1, ev_eor2t, ev_eor2f, ev_enot, ev_enot1, ev_enot2, ev_ch, ev_ch1, ev_ch2, ev_ch3t, ev_ch3f, ev_ch4, ev_m, ev_m1, ev_m2, ev_m3, ev_jo, ev_jo1, ev_jo2, ev_fs, ev_jfn, ev_jfc, ev_jf1, ev_dct, ev_kvn, ev_kvc, ev_kv1, ev_kv2, ev_kv3, ev_dct1, ev_pn, ev_ps, ev_ps1, ev_sl, ev_sl1, ev_sl2, ev_sl3, ev_snil, ev_seq, ev_seqn, ev_seqr, ev_seqb, ev_seqc, ev_seqx, ev_sex, ev_sex1, ev_ret, ev_ret1, ev_retn, ev_sif, ev_sif1t, ev_sif1f, ev_brk, ev_cnt, ev_asg, ev_asg1, ev_gnm, ev_gnil, ev_gcons, ev_gcons1, ev_gtp, ev_gst, ev_gst1, ev_gsub, ev_gsub1, ev_gsub2, ev_gsub3, ev_par, ev_par1, ev_par3, ev_par31, ev_aug, ev_aug1, ev_aug2, ev_aug3, ev_for, ev_for1, ev_lcomp, ev_lcomp1, ev_wipn, ev_wipc, ev_iseq, ev_iseq1, ev_seqt, ev_seqf, ev_seqs, ev_seql, ev_seql1, ev_rg1, ev_rg11, ev_rg2, ev_rg21, ev_en, ev_en1, ev_en2, ev_outr, ev_outn, ev_outx, ev_ixi, ev_ixk, ev_ixl, ev_ixll, ev_ixld, ev_ixkk, ev_ix1, ev_ixt, ev_ixf, vv_oAdd, vv_oAddI, vv_oSub, vv_oLt, vv_oLe, vv_oGt, vv_oGe, vv_oEq, vv_oNe, vv_eqs, vv_nes, vv_eqns, vv_isn, vv_notn, vv_in_non, vv_in_bl, vv_in_int, vv_in_str, vv_in_tup, vv_in_frz, vv_in_loc, vv_neg, vv_tb, vv_ti, vv_tn, vv_tt, vv_tf, vv_mul, vv_div, vv_mod, vv_pow7, vv_pow8, vv_pow9, vv_pow18, vv_pow12, vv_pow6, vv_pow5, vv_pow4, vv_pow10, vv_pow16, vv_abs, vv_min, vv_max, vv_inti, vv_intb, vv_stri, vv_strs, vv_lent, vv_lenf, vv_lens, vv_htup, vv_hlen, vv_is_non_bool, vv_is_non_int, vv_is_non_str, vv_is_non_tuple, vv_is_bl_bool, vv_is_bl_int, vv_is_bl_str, vv_is_bl_tuple, vv_is_int_bool, vv_is_int_int, vv_is_int_str, vv_is_int_tuple, vv_is_str_bool, vv_is_str_int, vv_is_str_str, vv_is_str_tuple, vv_is_tup_bool, vv_is_tup_int, vv_is_tup_str, vv_is_tup_tuple, vv_is_frz_bool, vv_is_frz_int, vv_is_frz_str, vv_is_frz_tuple, vv_iss, vv_items_t, vv_items_f, vv_spl, vv_fmts, vv_fmti, vv_cats, vv_cast0, vv_cast1, vv_cast2, vv_cast3, vv_cast4, vv_cast5, vv_cast6, vv_cast7, vv_cast8, vv_cast9, vv_cast10, vv_cast11, vv_line0, vv_line1, vv_line2, vv_line3, vv_line4, vv_line5, vv_line6, vv_line7, vv_line8, vv_isl, vv_isl1, vv_lenl, vv_lenl1, vv_tupl, vv_tupl1, vv_items_l, vv_items_l1, vv_lst_f, vv_lst_l, vv_lst_l1, vv_app, vv_app1, vv_pop0, vv_pop01, vv_ins0, vv_ins01, vv_mull, vv_mull0, vv_mull1, vv_addl, vv_addl1, vv_slf, vv_slt, List.getElem?_cons_zero, List.getElem?_cons_succ, List.set_cons_zero, List.set_cons_succ, List.map_cons, List.map_nil, List.length_cons, List.length_nil, List.replicate_succ, List.replicate_zero, List.cons_append, List.nil_append, List.append_nil, Option.map_some, Option.map_none, Option.bind_some, Nat.reduceSub, Nat.reduceAdd, Nat.reduceMul, Nat.reduceLeDiff, Nat.zero_le, Int.reduceLT, Int.reduceLE, Int.reduceNeg, Int.reduceAdd, Int.reduceEq, Int.reduceMul, Int.reduceSub, eq_self, Bool.not_true, Bool.not_false, Bool.and_true, Bool.true_and, Bool.and_false, Bool.false_and, Bool.or_true, Bool.true_or, Bool.or_false, Bool.false_or, decide_true, decide_false, if_true, if_false, ite_true, ite_false, Bool.false_eq_true, and_true, true_and, and_false, false_and, not_true_eq_false, not_false_eq_true], by
      have hj := List.mem_range.mp hj
      have k2 : okN (60 : Int) = true := by decide
      have k3 : okN (0 + (j : Int)) = true := okN_small (by omega) (by omega)
      have k4 : (0 : Int) < 3 := by decide
      by_cases h : 0 < (0 + (j : Int)) % 3
      · simp only [k2, k3, k4, h, fR, encR, ev_var, ev_var1, ev_c, ev_vout, ev_bin, ev_bin1, ev_bin2, ev_un, ev_un1, ev_lnil, ev_lcons, ev_lcons1, ev_lcons2, ev_ldef, ev_ldef1, ev_lstar, ev_lstar1, ev_lstar1b, ev_lstar2, ev_tup, ev_tup1, ev_lst, ev_lst1, ev_lchk, ev_lchk1, ev_call, ev_call1, ev_g, ev_b, ev_b1, ev_tmp, ev_tmp1, ev_comp, ev_comp1, ev_if, ev_if1t, ev_if1f, ev_bt, ev_bt1, ev_bt2, ev_bv, ev_bv1, ev_bnot, ev_bnot1, ev_band, ev_band1t, ev_band1f, ev_bor, ev_bor1t, ev_bor1f, ev_byes, ev_eand, ev_eand1, ev_eand2t, ev_eand2f, ev_eor, ev_eor1, ev_eor2t, ev_eor2f, ev_enot, ev_enot1, ev_enot2, ev_ch, ev_ch1, ev_ch2, ev_ch3t, ev_ch3f, ev_ch4, ev_m, ev_m1, ev_m2, ev_m3, ev_jo, ev_jo1, ev_jo2, ev_fs, ev_jfn, ev_jfc, ev_jf1, ev_dct, ev_kvn, ev_kvc, ev_kv1, ev_kv2, ev_kv3, ev_dct1, ev_pn, ev_ps, ev_ps1, ev_sl, ev_sl1, ev_sl2, ev_sl3, ev_snil, ev_seq, ev_seqn, ev_seqr, ev_seqb, ev_seqc, ev_seqx, ev_sex, ev_sex1, ev_ret, ev_ret1, ev_retn, ev_sif, ev_sif1t, ev_sif1f, ev_brk, ev_cnt, ev_asg, ev_asg1, ev_gnm, ev_gnil, ev_gcons, ev_gcons1, ev_gtp, ev_gst, ev_gst1, ev_gsub, ev_gsub1, ev_gsub2, ev_gsub3, ev_par, ev_par1, ev_par3, ev_par31, ev_aug, ev_aug1, ev_aug2, ev_aug3, ev_for, ev_for1, ev_lcomp, ev_lcomp1, ev_wipn, ev_wipc, ev_iseq, ev_iseq1, ev_seqt, ev_seqf, ev_seqs, ev_seql, ev_seql1, ev_rg1, ev_rg11, ev_rg2, ev_rg21, ev_en, ev_en1, ev_en2, ev_outr, ev_outn, ev_outx, ev_ixi, ev_ixk, ev_ixl, ev_ixll, ev_ixld, ev_ixkk, ev_ix1, ev_ixt, ev_ixf, vv_oAdd, vv_oAddI, vv_oSub, vv_oLt, vv_oLe, vv_oGt, vv_oGe, vv_oEq, vv_oNe, vv_eqs, vv_nes, vv_eqns, vv_isn, vv_notn, vv_in_non, vv_in_bl, vv_in_int, vv_in_str, vv_in_tup, vv_in_frz, vv_in_loc, vv_neg, vv_tb, vv_ti, vv_tn, vv_tt, vv_tf, vv_mul, vv_div, vv_mod, vv_pow7, vv_pow8, vv_pow9, vv_pow18, vv_pow12, vv_pow6, vv_pow5, vv_pow4, vv_pow10, vv_pow16, vv_abs, vv_min, vv_max, vv_inti, vv_intb, vv_stri, vv_strs, vv_lent, vv_lenf, vv_lens, vv_htup, vv_hlen, vv_is_non_bool, vv_is_non_int, vv_is_non_str, vv_is_non_tuple, vv_is_bl_bool, vv_is_bl_int, vv_is_bl_str, vv_is_bl_tuple, vv_is_int_bool, vv_is_int_int, vv_is_int_str, vv_is_int_tuple, vv_is_str_bool, vv_is_str_int, vv_is_str_str, vv_is_str_tuple, vv_is_tup_bool, vv_is_tup_int, vv_is_tup_str, vv_is_tup_tuple, vv_is_frz_bool, vv_is_frz_int, vv_is_frz_str, vv_is_frz_tuple, vv_iss, vv_items_t, vv_items_f, vv_spl, vv_fmts, vv_fmti, vv_cats, vv_cast0, vv_cast1, vv_cast2, vv_cast3, vv_cast4, vv_cast5, vv_cast6, vv_cast7, vv_cast8, vv_cast9, vv_cast10, vv_cast11, vv_line0, vv_line1, vv_line2, vv_line3, vv_line4, vv_line5, vv_line6, vv_line7, vv_line8, vv_isl, vv_isl1, vv_lenl, vv_lenl1, vv_tupl, vv_tupl1, vv_items_l, vv_items_l1, vv_lst_f, vv_lst_l, vv_lst_l1, vv_app, vv_app1, vv_pop0, vv_pop01, vv_ins0, vv_ins01, vv_mull, vv_mull0, vv_mull1, vv_addl, vv_addl1, vv_slf, vv_slt, List.getElem?_cons_zero, List.getElem?_cons_succ, List.set_cons_zero, List.set_cons_succ, List.map_cons, List.map_nil, List.length_cons, List.length_nil, List.replicate_succ, List.replicate_zero, List.cons_append, List.nil_append, List.append_nil, Option.map_some, Option.map_none, Option.bind_some, Nat.reduceSub, Nat.reduceAdd, Nat.reduceMul, Nat.reduceLeDiff, Nat.zero_le, Int.reduceLT, Int.reduceLE, Int.reduceNeg, Int.reduceAdd, Int.reduceEq, Int.reduceMul, Int.reduceSub, eq_self, Bool.not_true, Bool.not_false, Bool.and_true, Bool.true_and, Bool.and_false, Bool.false_and, Bool.or_true, Bool.true_or, Bool.or_false, Bool.false_or, decide_true, decide_false, if_true, if_false, ite_true, ite_false, Bool.false_eq_true, and_true, true_and, and_false, false_and, not_true_eq_false, not_false_eq_true]
      · simp only [k2, k3, k4, h, fR, encR, ev_var, ev_var1, ev_c, ev_vout, ev_bin, ev_bin1, ev_bin2, ev_un, ev_un1, ev_lnil, ev_lcons, ev_lcons1, ev_lcons2, ev_ldef, ev_ldef1, ev_lstar, ev_lstar1, ev_lstar1b, ev_lstar2, ev_tup, ev_tup1, ev_lst, ev_lst1, ev_lchk, ev_lchk1, ev_call, ev_call1, ev_g, ev_b, ev_b1, ev_tmp, ev_tmp1, ev_comp, ev_comp1, ev_if, ev_if1t, ev_if1f, ev_bt, ev_bt1, ev_bt2, ev_bv, ev_bv1, ev_bnot, ev_bnot1, ev_band, ev_band1t, ev_band1f, ev_bor, ev_bor1t, ev_bor1f, ev_byes, ev_eand, ev_eand1, ev_eand2t, ev_eand2f, ev_eor, ev_eor1, ev_eor2t, ev_eor2f, ev_enot, ev_enot1, ev_enot2, ev_ch, ev_ch1, ev_ch2, ev_ch3t, ev_ch3f, ev_ch4, ev_m, ev_m1, ev_m2, ev_m3, ev_jo, ev_jo1, ev_jo2, ev_fs, ev_jfn, ev_jfc, ev_jf1, ev_dct, ev_kvn, ev_kvc, ev_kv1, ev_kv2, ev_kv3, ev_dct1, ev_pn, ev_ps, ev_ps1, ev_sl, ev_sl1, ev_sl2, ev_sl3, ev_snil, ev_seq, ev_seqn, ev_seqr, ev_seqb, ev_seqc, ev_seqx, ev_sex, ev_sex1, ev_ret, ev_ret1, ev_retn, ev_sif, ev_sif1t, ev_sif1f, ev_brk, ev_cnt, ev_asg, ev_asg1, ev_gnm, ev_gnil, ev_gcons, ev_gcons1, ev_gtp, ev_gst, ev_gst1, ev_gsub, ev_gsub1, ev_gsub2, ev_gsub3, ev_par, ev_par1, ev_par3, ev_par31, ev_aug, ev_aug1, ev_aug2, ev_aug3, ev_for, ev_for1, ev_lcomp, ev_lcomp1, ev_wipn, ev_wipc, ev_iseq, ev_iseq1, ev_seqt, ev_seqf, ev_seqs, ev_seql, ev_seql1, ev_rg1, ev_rg11, ev_rg2, ev_rg21, ev_en, ev_en1, ev_en2, ev_outr, ev_outn, ev_outx, ev_ixi, ev_ixk, ev_ixl, ev_ixll, ev_ixld, ev_ixkk, ev_ix1, ev_ixt, ev_ixf, vv_oAdd, vv_oAddI, vv_oSub, vv_oLt, vv_oLe, vv_oGt, vv_oGe, vv_oEq, vv_oNe, vv_eqs, vv_nes, vv_eqns, vv_isn, vv_notn, vv_in_non, vv_in_bl, vv_in_int, vv_in_str, vv_in_tup, vv_in_frz, vv_in_loc, vv_neg, vv_tb, vv_ti, vv_tn, vv_tt, vv_tf, vv_mul, vv_div, vv_mod, vv_pow7, vv_pow8, vv_pow9, vv_pow18, vv_pow12, vv_pow6, vv_pow5, vv_pow4, vv_pow10, vv_pow16, vv_abs, vv_min, vv_max, vv_inti, vv_intb, vv_stri, vv_strs, vv_lent, vv_lenf, vv_lens, vv_htup, vv_hlen, vv_is_non_bool, vv_is_non_int, vv_is_non_str, vv_is_non_tuple, vv_is_bl_bool, vv_is_bl_int, vv_is_bl_str, vv_is_bl_tuple, vv_is_int_bool, vv_is_int_int, vv_is_int_str, vv_is_int_tuple, vv_is_str_bool, vv_is_str_int, vv_is_str_str, vv_is_str_tuple, vv_is_tup_bool, vv_is_tup_int, vv_is_tup_str, vv_is_tup_tuple, vv_is_frz_bool, vv_is_frz_int, vv_is_frz_str, vv_is_frz_tuple, vv_iss, vv_items_t, vv_items_f, vv_spl, vv_fmts, vv_fmti, vv_cats, vv_cast0, vv_cast1, vv_cast2, vv_cast3, vv_cast4, vv_cast5, vv_cast6, vv_cast7, vv_cast8, vv_cast9, vv_cast10, vv_cast11, vv_line0, vv_line1, vv_line2, vv_line3, vv_line4, vv_line5, vv_line6, vv_line7, vv_line8, vv_isl, vv_isl1, vv_lenl, vv_lenl1, vv_tupl, vv_tupl1, vv_items_l, vv_items_l1, vv_lst_f, vv_lst_l, vv_lst_l1, vv_app, vv_app1, vv_pop0, vv_pop01, vv_ins0, vv_ins01, vv_mull, vv_mull0, vv_mull1, vv_addl, vv_addl1, vv_slf, vv_slt, List.getElem?_cons_zero, List.getElem?_cons_succ, List.set_cons_zero, List.set_cons_succ, List.map_cons, List.map_nil, List.length_cons, List.length_nil, List.replicate_succ, List.replicate_zero, List.cons_append, List.nil_append, List.append_nil, Option.map_some, Option.map_none, Option.bind_some, Nat.reduceSub, Nat.reduceAdd, Nat.reduceMul, Nat.reduceLeDiff, Nat.zero_le, Int.reduceLT, Int.reduceLE, Int.reduceNeg, Int.reduceAdd, Int.reduceEq, Int.reduceMul, Int.reduceSub, eq_self, Bool.not_true, Bool.not_false, Bool.and_true, Bool.true_and, Bool.and_false, Bool.false_and, Bool.or_true, Bool.true_or, Bool.or_false, Bool.false_or, decide_true, decide_false, if_true, if_false, ite_true, ite_false, Bool.false_eq_true, and_true, true_and, and_false, false_and, not_true_eq_false, not_false_eq_true]⟩) (by simp [sizeLine_eq])
  have er : rgT 0 360 = (List.range 360).map fun j : Nat => T.int (0 + (j : Int)) := rfl
  have ex : (List.range 360).map (fun j => encR (fR (1 + c) j)) = xs.map encR := by rw [hxs, List.map_map]; rfl
  rw [← er, ex] at c1
  simp only [List.nil_append] at c1
  have rt1 := fun s => law_runs_text_ok (k := k + 3) (s := s) hok (by omega)
  have rt2 := fun s => motions_text_ok (k := k + 2) (s := s) hok (by omega)
  have rt3 := fun s => parse_motions_ok (k := k) (s := s) hok (by omega) hI
  refine ⟨s1, ?_⟩
  unfold restL
  simp only [e1, k1, c1, rt1, rt2, rt3, eq_self_tup, ev_var, ev_var1, ev_c, ev_vout, ev_bin, ev_bin1, ev_bin2, ev_un, ev_un1, ev_lnil, ev_lcons, ev_lcons1, ev_lcons2, ev_ldef, ev_ldef1, ev_lstar, ev_lstar1, ev_lstar1b, ev_lstar2, ev_tup, ev_tup1, ev_lst, ev_lst1, ev_lchk, ev_lchk1, ev_call, ev_call1, ev_g, ev_b, ev_b1, ev_tmp, ev_tmp1, ev_comp, ev_comp1, ev_if, ev_if1t, ev_if1f, ev_bt, ev_bt1, ev_bt2, ev_bv, ev_bv1, ev_bnot, ev_bnot1, ev_band, ev_band1t, ev_band1f, ev_bor, ev_bor1t, ev_bor1f, ev_byes, ev_eand, ev_eand1, ev_eand2t, ev_eand2f, ev_eor, ev_eor1, ev_eor2t, ev_eor2f, ev_enot, ev_enot1, ev_enot2, ev_ch, ev_ch1, ev_ch2, ev_ch3t, ev_ch3f, ev_ch4, ev_m, ev_m1, ev_m2, ev_m3, ev_jo, ev_jo1, ev_jo2, ev_fs, ev_jfn, ev_jfc, ev_jf1, ev_dct, ev_kvn, ev_kvc, ev_kv1, ev_kv2, ev_kv3, ev_dct1, ev_pn, ev_ps, ev_ps1, ev_sl, ev_sl1, ev_sl2, ev_sl3, ev_snil, ev_seq, ev_seqn, ev_seqr, ev_seqb, ev_seqc, ev_seqx, ev_sex, ev_sex1, ev_ret, ev_ret1, ev_retn, ev_sif, ev_sif1t, ev_sif1f, ev_brk, ev_cnt, ev_asg, ev_asg1, ev_gnm, ev_gnil, ev_gcons, ev_gcons1, ev_gtp, ev_gst, ev_gst1, ev_gsub, ev_gsub1, ev_gsub2, ev_gsub3, ev_par, ev_par1, ev_par3, ev_par31, ev_aug, ev_aug1, ev_aug2, ev_aug3, ev_for, ev_for1, ev_lcomp, ev_lcomp1, ev_wipn, ev_wipc, ev_iseq, ev_iseq1, ev_seqt, ev_seqf, ev_seqs, ev_seql, ev_seql1, ev_rg1, ev_rg11, ev_rg2, ev_rg21, ev_en, ev_en1, ev_en2, ev_outr, ev_outn, ev_outx, ev_ixi, ev_ixk, ev_ixl, ev_ixll, ev_ixld, ev_ixkk, ev_ix1, ev_ixt, ev_ixf, vv_oAdd, vv_oAddI, vv_oSub, vv_oLt, vv_oLe, vv_oGt, vv_oGe, vv_oEq, vv_oNe, vv_eqs, vv_nes, vv_eqns, vv_isn, vv_notn, vv_in_non, vv_in_bl, vv_in_int, vv_in_str, vv_in_tup, vv_in_frz, vv_in_loc, vv_neg, vv_tb, vv_ti, vv_tn, vv_tt, vv_tf, vv_mul, vv_div, vv_mod, vv_pow7, vv_pow8, vv_pow9, vv_pow18, vv_pow12, vv_pow6, vv_pow5, vv_pow4, vv_pow10, vv_pow16, vv_abs, vv_min, vv_max, vv_inti, vv_intb, vv_stri, vv_strs, vv_lent, vv_lenf, vv_lens, vv_htup, vv_hlen, vv_is_non_bool, vv_is_non_int, vv_is_non_str, vv_is_non_tuple, vv_is_bl_bool, vv_is_bl_int, vv_is_bl_str, vv_is_bl_tuple, vv_is_int_bool, vv_is_int_int, vv_is_int_str, vv_is_int_tuple, vv_is_str_bool, vv_is_str_int, vv_is_str_str, vv_is_str_tuple, vv_is_tup_bool, vv_is_tup_int, vv_is_tup_str, vv_is_tup_tuple, vv_is_frz_bool, vv_is_frz_int, vv_is_frz_str, vv_is_frz_tuple, vv_iss, vv_items_t, vv_items_f, vv_spl, vv_fmts, vv_fmti, vv_cats, vv_cast0, vv_cast1, vv_cast2, vv_cast3, vv_cast4, vv_cast5, vv_cast6, vv_cast7, vv_cast8, vv_cast9, vv_cast10, vv_cast11, vv_line0, vv_line1, vv_line2, vv_line3, vv_line4, vv_line5, vv_line6, vv_line7, vv_line8, vv_isl, vv_isl1, vv_lenl, vv_lenl1, vv_tupl, vv_tupl1, vv_items_l, vv_items_l1, vv_lst_f, vv_lst_l, vv_lst_l1, vv_app, vv_app1, vv_pop0, vv_pop01, vv_ins0, vv_ins01, vv_mull, vv_mull0, vv_mull1, vv_addl, vv_addl1, vv_slf, vv_slt, List.getElem?_cons_zero, List.getElem?_cons_succ, List.set_cons_zero, List.set_cons_succ, List.map_cons, List.map_nil, List.length_cons, List.length_nil, List.replicate_succ, List.replicate_zero, List.cons_append, List.nil_append, List.append_nil, Option.map_some, Option.map_none, Option.bind_some, Nat.reduceSub, Nat.reduceAdd, Nat.reduceMul, Nat.reduceLeDiff, Nat.zero_le, Int.reduceLT, Int.reduceLE, Int.reduceNeg, Int.reduceAdd, Int.reduceEq, Int.reduceMul, Int.reduceSub, eq_self, Bool.not_true, Bool.not_false, Bool.and_true, Bool.true_and, Bool.and_false, Bool.false_and, Bool.or_true, Bool.true_or, Bool.or_false, Bool.false_or, decide_true, decide_false, if_true, if_false, ite_true, ite_false, Bool.false_eq_true, and_true, true_and, and_false, false_and, not_true_eq_false, not_false_eq_true]
theorem plain (ns : List Int) (h : ns.length ≤ 63) : ∃ s', run pr 13 "law" [.frz (ns.map T.int)] ⟨[], 0⟩ = .ok (.bl true) s' := by
  obtain ⟨d, s1, e1, P1, _, kp1, hd⟩ := opened_spec (k := 11) (s := ⟨[], 0⟩) (p := pr) pr__law_opened h
  have k1 : okR (10 : Int) = true := by decide
  obtain ⟨r2, s2, e2, ⟨t, x3, x4, x5, x6, x7, x8, x9, rfl⟩, P2⟩ : ∃ r' s', forL chkT (gNm 2) (tB (run pr (8 + 4))) (rgT 0 10) [some (.frz (ns.map T.int)), some (.loc d), none, none, none, none, none, none, none, none] s1 = .nx r' s' ∧ (∃ t x3 x4 x5 x6 x7 x8 x9, r' = [some (.frz (ns.map T.int)), some (.loc d), some t, x3, x4, x5, x6, x7, x8, x9]) ∧ Pot d 1000000 s' := by
    obtain ⟨r', s', e, q, P⟩ := forL_inv (I := fun i r s => (∃ t x3 x4 x5 x6 x7 x8 x9, r = [some (.frz (ns.map T.int)), some (.loc d), t, x3, x4, x5, x6, x7, x8, x9] ∧ (0 < i → t.isSome = true)) ∧ Pot d (10000 * i) s) (chk := chkT) (g := gNm 2) (b := tB (run pr (8 + 4))) (ts := rgT 0 10) (r := [some (.frz (ns.map T.int)), some (.loc d), none, none, none, none, none, none, none, none]) (s := s1) (fun _ _ _ _ => rfl)
      (fun i u r s hu hI => by
        obtain ⟨⟨t, x3, x4, x5, x6, x7, x8, x9, rfl, _⟩, P⟩ := hI
        have hi : i < (rgT 0 10).length := (List.getElem?_eq_some_iff.mp hu).1
        have hi10 : (rgT 0 10).length = 10 := rfl
        obtain ⟨s', y3, y4, y5, y6, y7, y8, y9, e, P'⟩ := turn_spec (k := 8) (sc := .frz (ns.map T.int)) (t := u) (x3 := x3) (x4 := x4) (x5 := x5) (x6 := x6) (x7 := x7) (x8 := x8) (x9 := x9) P (by unfold NB; omega)
        exact ⟨_, s, _, s', by simp only [ev_var, ev_var1, ev_c, ev_vout, ev_bin, ev_bin1, ev_bin2, ev_un, ev_un1, ev_lnil, ev_lcons, ev_lcons1, ev_lcons2, ev_ldef, ev_ldef1, ev_lstar, ev_lstar1, ev_lstar1b, ev_lstar2, ev_tup, ev_tup1, ev_lst, ev_lst1, ev_lchk, ev_lchk1, ev_call, ev_call1, ev_g, ev_b, ev_b1, ev_tmp, ev_tmp1, ev_comp, ev_comp1, ev_if, ev_if1t, ev_if1f, ev_bt, ev_bt1, ev_bt2, ev_bv, ev_bv1, ev_bnot, ev_bnot1, ev_band, ev_band1t, ev_band1f, ev_bor, ev_bor1t, ev_bor1f, ev_byes, ev_eand, ev_eand1, ev_eand2t, ev_eand2f, ev_eor, ev_eor1, ev_eor2t, ev_eor2f, ev_enot, ev_enot1, ev_enot2, ev_ch, ev_ch1, ev_ch2, ev_ch3t, ev_ch3f, ev_ch4, ev_m, ev_m1, ev_m2, ev_m3, ev_jo, ev_jo1, ev_jo2, ev_fs, ev_jfn, ev_jfc, ev_jf1, ev_dct, ev_kvn, ev_kvc, ev_kv1, ev_kv2, ev_kv3, ev_dct1, ev_pn, ev_ps, ev_ps1, ev_sl, ev_sl1, ev_sl2, ev_sl3, ev_snil, ev_seq, ev_seqn, ev_seqr, ev_seqb, ev_seqc, ev_seqx, ev_sex, ev_sex1, ev_ret, ev_ret1, ev_retn, ev_sif, ev_sif1t, ev_sif1f, ev_brk, ev_cnt, ev_asg, ev_asg1, ev_gnm, ev_gnil, ev_gcons, ev_gcons1, ev_gtp, ev_gst, ev_gst1, ev_gsub, ev_gsub1, ev_gsub2, ev_gsub3, ev_par, ev_par1, ev_par3, ev_par31, ev_aug, ev_aug1, ev_aug2, ev_aug3, ev_for, ev_for1, ev_lcomp, ev_lcomp1, ev_wipn, ev_wipc, ev_iseq, ev_iseq1, ev_seqt, ev_seqf, ev_seqs, ev_seql, ev_seql1, ev_rg1, ev_rg11, ev_rg2, ev_rg21, ev_en, ev_en1, ev_en2, ev_outr, ev_outn, ev_outx, ev_ixi, ev_ixk, ev_ixl, ev_ixll, ev_ixld, ev_ixkk, ev_ix1, ev_ixt, ev_ixf, vv_oAdd, vv_oAddI, vv_oSub, vv_oLt, vv_oLe, vv_oGt, vv_oGe, vv_oEq, vv_oNe, vv_eqs, vv_nes, vv_eqns, vv_isn, vv_notn, vv_in_non, vv_in_bl, vv_in_int, vv_in_str, vv_in_tup, vv_in_frz, vv_in_loc, vv_neg, vv_tb, vv_ti, vv_tn, vv_tt, vv_tf, vv_mul, vv_div, vv_mod, vv_pow7, vv_pow8, vv_pow9, vv_pow18, vv_pow12, vv_pow6, vv_pow5, vv_pow4, vv_pow10, vv_pow16, vv_abs, vv_min, vv_max, vv_inti, vv_intb, vv_stri, vv_strs, vv_lent, vv_lenf, vv_lens, vv_htup, vv_hlen, vv_is_non_bool, vv_is_non_int, vv_is_non_str, vv_is_non_tuple, vv_is_bl_bool, vv_is_bl_int, vv_is_bl_str, vv_is_bl_tuple, vv_is_int_bool, vv_is_int_int, vv_is_int_str, vv_is_int_tuple, vv_is_str_bool, vv_is_str_int, vv_is_str_str, vv_is_str_tuple, vv_is_tup_bool, vv_is_tup_int, vv_is_tup_str, vv_is_tup_tuple, vv_is_frz_bool, vv_is_frz_int, vv_is_frz_str, vv_is_frz_tuple, vv_iss, vv_items_t, vv_items_f, vv_spl, vv_fmts, vv_fmti, vv_cats, vv_cast0, vv_cast1, vv_cast2, vv_cast3, vv_cast4, vv_cast5, vv_cast6, vv_cast7, vv_cast8, vv_cast9, vv_cast10, vv_cast11, vv_line0, vv_line1, vv_line2, vv_line3, vv_line4, vv_line5, vv_line6, vv_line7, vv_line8, vv_isl, vv_isl1, vv_lenl, vv_lenl1, vv_tupl, vv_tupl1, vv_items_l, vv_items_l1, vv_lst_f, vv_lst_l, vv_lst_l1, vv_app, vv_app1, vv_pop0, vv_pop01, vv_ins0, vv_ins01, vv_mull, vv_mull0, vv_mull1, vv_addl, vv_addl1, vv_slf, vv_slt, List.getElem?_cons_zero, List.getElem?_cons_succ, List.set_cons_zero, List.set_cons_succ, List.map_cons, List.map_nil, List.length_cons, List.length_nil, List.replicate_succ, List.replicate_zero, List.cons_append, List.nil_append, List.append_nil, Option.map_some, Option.map_none, Option.bind_some, Nat.reduceSub, Nat.reduceAdd, Nat.reduceMul, Nat.reduceLeDiff, Nat.zero_le, Int.reduceLT, Int.reduceLE, Int.reduceNeg, Int.reduceAdd, Int.reduceEq, Int.reduceMul, Int.reduceSub, eq_self, Bool.not_true, Bool.not_false, Bool.and_true, Bool.true_and, Bool.and_false, Bool.false_and, Bool.or_true, Bool.true_or, Bool.or_false, Bool.false_or, decide_true, decide_false, if_true, if_false, ite_true, ite_false, Bool.false_eq_true, and_true, true_and, and_false, false_and, not_true_eq_false, not_false_eq_true], e, ⟨some u, y3, y4, y5, y6, y7, y8, y9, rfl, fun _ => rfl⟩, P'.mono (by omega)⟩)
      ⟨⟨none, none, none, none, none, none, none, none, rfl, fun h => by omega⟩, P1⟩
    obtain ⟨t, x3, x4, x5, x6, x7, x8, x9, rfl, ht⟩ := q
    have hi10 : (rgT 0 10).length = 10 := rfl
    obtain ⟨t, rfl⟩ := Option.isSome_iff_exists.mp (ht (by omega))
    exact ⟨_, s', e, ⟨t, x3, x4, x5, x6, x7, x8, x9, rfl⟩, P.mono (by omega)⟩
  obtain ⟨s3, e3⟩ := rest_spec (k := 8) (sc := .frz (ns.map T.int)) (t := t) (x3 := x3) (x4 := x4) (x5 := x5) (x6 := x6) (x7 := x7) (x8 := x8) (x9 := x9) P2 (by unfold NB; omega)
  have fin : (b_law (run pr 12) [some (.frz (ns.map T.int)), none, none, none, none, none, none, none, none, none] ⟨[], 0⟩).out = .ok (.bl true) s3 := by
    rw [law_eq]
    simp only [e1, k1, e2, ev_var, ev_var1, ev_c, ev_vout, ev_bin, ev_bin1, ev_bin2, ev_un, ev_un1, ev_lnil, ev_lcons, ev_lcons1, ev_lcons2, ev_ldef, ev_ldef1, ev_lstar, ev_lstar1, ev_lstar1b, ev_lstar2, ev_tup, ev_tup1, ev_lst, ev_lst1, ev_lchk, ev_lchk1, ev_call, ev_call1, ev_g, ev_b, ev_b1, ev_tmp, ev_tmp1, ev_comp, ev_comp1, ev_if, ev_if1t, ev_if1f, ev_bt, ev_bt1, ev_bt2, ev_bv, ev_bv1, ev_bnot, ev_bnot1, ev_band, ev_band1t, ev_band1f, ev_bor, ev_bor1t, ev_bor1f, ev_byes, ev_eand, ev_eand1, ev_eand2t, ev_eand2f, ev_eor, ev_eor1, ev_eor2t, ev_eor2f, ev_enot, ev_enot1, ev_enot2, ev_ch, ev_ch1, ev_ch2, ev_ch3t, ev_ch3f, ev_ch4, ev_m, ev_m1, ev_m2, ev_m3, ev_jo, ev_jo1, ev_jo2, ev_fs, ev_jfn, ev_jfc, ev_jf1, ev_dct, ev_kvn, ev_kvc, ev_kv1, ev_kv2, ev_kv3, ev_dct1, ev_pn, ev_ps, ev_ps1, ev_sl, ev_sl1, ev_sl2, ev_sl3, ev_snil, ev_seq, ev_seqn, ev_seqr, ev_seqb, ev_seqc, ev_seqx, ev_sex, ev_sex1, ev_ret, ev_ret1, ev_retn, ev_sif, ev_sif1t, ev_sif1f, ev_brk, ev_cnt, ev_asg, ev_asg1, ev_gnm, ev_gnil, ev_gcons, ev_gcons1, ev_gtp, ev_gst, ev_gst1, ev_gsub, ev_gsub1, ev_gsub2, ev_gsub3, ev_par, ev_par1, ev_par3, ev_par31, ev_aug, ev_aug1, ev_aug2, ev_aug3, ev_for, ev_for1, ev_lcomp, ev_lcomp1, ev_wipn, ev_wipc, ev_iseq, ev_iseq1, ev_seqt, ev_seqf, ev_seqs, ev_seql, ev_seql1, ev_rg1, ev_rg11, ev_rg2, ev_rg21, ev_en, ev_en1, ev_en2, ev_outr, ev_outn, ev_outx, ev_ixi, ev_ixk, ev_ixl, ev_ixll, ev_ixld, ev_ixkk, ev_ix1, ev_ixt, ev_ixf, vv_oAdd, vv_oAddI, vv_oSub, vv_oLt, vv_oLe, vv_oGt, vv_oGe, vv_oEq, vv_oNe, vv_eqs, vv_nes, vv_eqns, vv_isn, vv_notn, vv_in_non, vv_in_bl, vv_in_int, vv_in_str, vv_in_tup, vv_in_frz, vv_in_loc, vv_neg, vv_tb, vv_ti, vv_tn, vv_tt, vv_tf, vv_mul, vv_div, vv_mod, vv_pow7, vv_pow8, vv_pow9, vv_pow18, vv_pow12, vv_pow6, vv_pow5, vv_pow4, vv_pow10, vv_pow16, vv_abs, vv_min, vv_max, vv_inti, vv_intb, vv_stri, vv_strs, vv_lent, vv_lenf, vv_lens, vv_htup, vv_hlen, vv_is_non_bool, vv_is_non_int, vv_is_non_str, vv_is_non_tuple, vv_is_bl_bool, vv_is_bl_int, vv_is_bl_str, vv_is_bl_tuple, vv_is_int_bool, vv_is_int_int, vv_is_int_str, vv_is_int_tuple, vv_is_str_bool, vv_is_str_int, vv_is_str_str, vv_is_str_tuple, vv_is_tup_bool, vv_is_tup_int, vv_is_tup_str, vv_is_tup_tuple, vv_is_frz_bool, vv_is_frz_int, vv_is_frz_str, vv_is_frz_tuple, vv_iss, vv_items_t, vv_items_f, vv_spl, vv_fmts, vv_fmti, vv_cats, vv_cast0, vv_cast1, vv_cast2, vv_cast3, vv_cast4, vv_cast5, vv_cast6, vv_cast7, vv_cast8, vv_cast9, vv_cast10, vv_cast11, vv_line0, vv_line1, vv_line2, vv_line3, vv_line4, vv_line5, vv_line6, vv_line7, vv_line8, vv_isl, vv_isl1, vv_lenl, vv_lenl1, vv_tupl, vv_tupl1, vv_items_l, vv_items_l1, vv_lst_f, vv_lst_l, vv_lst_l1, vv_app, vv_app1, vv_pop0, vv_pop01, vv_ins0, vv_ins01, vv_mull, vv_mull0, vv_mull1, vv_addl, vv_addl1, vv_slf, vv_slt, List.getElem?_cons_zero, List.getElem?_cons_succ, List.set_cons_zero, List.set_cons_succ, List.map_cons, List.map_nil, List.length_cons, List.length_nil, List.replicate_succ, List.replicate_zero, List.cons_append, List.nil_append, List.append_nil, Option.map_some, Option.map_none, Option.bind_some, Nat.reduceSub, Nat.reduceAdd, Nat.reduceMul, Nat.reduceLeDiff, Nat.zero_le, Int.reduceLT, Int.reduceLE, Int.reduceNeg, Int.reduceAdd, Int.reduceEq, Int.reduceMul, Int.reduceSub, eq_self, Bool.not_true, Bool.not_false, Bool.and_true, Bool.true_and, Bool.and_false, Bool.false_and, Bool.or_true, Bool.true_or, Bool.or_false, Bool.false_or, decide_true, decide_false, if_true, if_false, ite_true, ite_false, Bool.false_eq_true, and_true, true_and, and_false, false_and, not_true_eq_false, not_false_eq_true]
    exact e3
  rw [run_eq pr_law rfl]
  rw [show (([T.frz (ns.map T.int)].map some ++ List.replicate (10 - 1) none : Fx.Env)) = [some (.frz (ns.map T.int)), none, none, none, none, none, none, none, none, none] from rfl]
  rw [fin]
  unfold gcR
  simp only
  split
  · exact ⟨_, rfl⟩
  · exact ⟨_, rfl⟩
end
end K71

set_option maxRecDepth 100000
set_option maxHeartbeats 0
namespace K71
open PySem PySem.Spec PyProof.Rows L2 Fx
abbrev R : PySem.W.OpenRow := PySem.W.OpenLaw.row PySem.Challenge.rw_lampstays_k71_texts_written_and_parsed
abbrev hk : PySem.W.Hook := He.hookD 4 fa fn
def ob (s : PySem.W.SharedT) : He.AlD := He.obsDG 4 fa fn (HandSHeadRun.getT s)
theorem ob_eq (s : PySem.W.SharedT) : ob s = hk.obs s.abs := He.obsDG_eq (HandSHeadRun.getT_eq s)
abbrev loose : List Str := (["MAX_MINUTE", "LIMIT", "MAX_LAMPS", "MAX_STRETCHES", "MAX_RUNS", "__name__", "LampError", "BadText", "HOLD", "PULSE", "is_integer", "is_minute", "is_lamp", "end_of", "is_run", "is_stretch", "DIGITS", "LONGEST", "NONE", "read_integer", "read_pair", "listed", "lamps_text", "log_text", "run_text", "motions_text", "words_of", "read_lamp", "parse_lamps", "parse_log"] : List Str) ++ (["read_run", "parse_motions", "_law_opened", "_law_draw", "_law_one", "_law_lamp", "_law_far_runs", "_law_log", "_law_lamps_text", "_law_log_text", "_law_runs_text"] : List Str)
theorem head_run (w : World) : HandSHeadRun.RunEq R (PySem.W.view R.prog [44]) hk ob 4000 loose w := by
  intro os
  kernel_rfl
end K71


set_option maxRecDepth 100000
set_option maxHeartbeats 0
namespace K71
open PySem PySem.Spec PyProof.Rows L2 Fx
abbrev kk : Nat := 12
theorem facts {P : Program} {w : World} {K : PySem.W.Frag} {h : Heap} {mg : Str → Option Value} {f : Addr} (X : K.In h) (G : h.Ns mainGlobals mg) (hfa : mg ("law" : Str) = some (.ref f)) (c : He.SaysD fa fn K) :
    ∃ fd : FuncData, (∀ (s : Shared) (v : Value), BindsTo s fd ⟨[v], []⟩ [("script", v)]) ∧ ∀ base : Heap, K.In base → base.Ns mainGlobals mg → FnF P w K mg base (kk + 1) f fd ["script"] (spF K mg (run pr (kk + 1)) "law") := by
  obtain ⟨fd, F⟩ := c.def_ 28 (d := dd "law" 44) rfl
  have e := hfa.symm.trans (He.glo_ok X G (c.fact 50 (f := .glo "law") rfl))
  cases e
  have b := FunD.bindsA (ps := ["script"]) F fun _ _ _ _ _ _ us hl => match us, hl with | [_], _ => rfl
  refine ⟨fd, fun s v => b s [v] rfl, fun base _ _ => fnF_of F fs_law pr_law rfl rfl fun X W e1 e2 e3 e4 e5 cx => ?_⟩
  subst e1 e2 e3 e4 e5
  exact ok_law (gs_of ‹_› G c) (gc_of (gs_of ‹_› G c) c kk) cx.cy cx.po cx.fn
end K71
open PySem PySem.W PySem.Calls PyProof.Rows
theorem PySem.Challenge.cw_lampstays_k71_texts_written_and_parsed_holds : PySem.Challenge.rw_lampstays_k71_texts_written_and_parsed.Holds := by
  w_on; o_law
  refine HandSHeadRun.head_any (r := OpenLaw.row PySem.Challenge.rw_lampstays_k71_texts_written_and_parsed) (q := view (OpenLaw.row PySem.Challenge.rw_lampstays_k71_texts_written_and_parsed).prog [44]) (H := K71.hk) (ob := K71.ob) (M := 4000) (loose := K71.loose) (d := HandSHeadRun.topDef (OpenLaw.row PySem.Challenge.rw_lampstays_k71_texts_written_and_parsed).prog 44) (kwd := []) K71.ob_eq
    (by kernel_rfl) (fun s => by kernel_rfl) K71.head_run (by kernel_rfl) (by kernel_rfl) (by kernel_rfl) (by rfl) (by first | assumption | decide +kernel) (by decide +kernel) ⟨rfl, rfl, rfl, rfl, rfl, by decide +kernel⟩ ?hw ?hc
  case hw => w_witness2
  case hc =>
    refine Fx.walk_F (l := PySem.Challenge.rw_lampstays_k71_texts_written_and_parsed) (k := K71.kk + 1) (p := K71.pr) (law := "law") (x := "script") (n := 63) rfl (by decide) (by kernel_rfl) ⟨⟨rfl, by decide, by decide⟩, rfl⟩ ?F K71.plain
    intro w mg fa h Y G hmg0
    obtain ⟨K, KX, c⟩ := Y
    have hmg : mg ("law" : PySem.Str) = some (.ref fa) := by
      have e : (HandSHeadRun.topDef (OpenLaw.row PySem.Challenge.rw_lampstays_k71_texts_written_and_parsed).prog 44).name = ("law" : PySem.Str) := by kernel_rfl
      rw [← e]
      exact hmg0
    obtain ⟨fd, hb, hF⟩ := K71.facts (P := (PySem.Challenge.rw_lampstays_k71_texts_written_and_parsed).prog) (w := w) KX G hmg c
    exact ⟨K, fd, KX, hb, hF⟩


