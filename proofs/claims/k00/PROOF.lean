import PyProof.Rows.All
import PyProof.Lay0
import PyProof.P3Statements
import Wide.All
import OpenK.AllK
import Wide.FinOn
import HandS.Base
import HandS.Call
import HandS.List
import HandS.Comp
import HandS.Exc
import HandS.ExcOwn
import HandS.Words
import HandS.WordsExc
import HandS.TryOnly
import HandS.TupAny
import HandS.Deep
import PyProof.Claim2
import HandS.Wide
import HandS.TupLe
import HandS.Dict
import HandS.Conv
import HandS.IsInst
import HandS.TupLen
import HandS.Text
import HandS.WordsDict
import HandS.Head0
import HandS.Head1
import HandS.Head2
import HandS.HeadEnd
import HandS.HeadHook1
import HandS.Ends
import HandS.More
import HandS.SortInts
import PySem.Challenge.RW_claimfall_k00_follows_by_numbers
set_option Elab.async false
set_option linter.all false
set_option maxRecDepth 100000
section
/-! MiS: a small deterministic evaluator's pieces: values (tuples are plain data), a heap of the lists, dicts and instances, and the meaning of each construct as a plain function. No program in sight. -/
namespace Mi
open PySem (PyData Str)

abbrev Key := Sum Int Str
/-- a value: plain data; an object; a tuple that holds objects -/
inductive W where
  | d (x : PyData)
  | ref (a : Nat)
  | mix (xs : List W)
/-- an object -/
inductive O where
  | lst (xs : List W)
  | dk (kvs : List (Key × W))
  | dt (kvs : List (List Key × W))
  | ins (c : Str) (fs : List (Str × W))
abbrev Hh := List O
/-- an exception: its class, its own fields -/
structure Ex where
  cls : Str
  fs : List (Str × PyData)
inductive R (α : Type) where
  | ok (x : α) (h : Hh)
  | ex (e : Ex) (h : Hh)
  | bad
abbrev Loc := List (Option W)
abbrev EM := Loc → Hh → R W
abbrev TM := Loc → Hh → R Bool
abbrev AM := Loc → Hh → R (List W)
/-- an operation by values: nothing is raised -/
abbrev Op1 := W → Hh → Option (W × Hh)
abbrev Op2 := W → W → Hh → Option (W × Hh)
abbrev OpN := List W → Hh → Option (W × Hh)
/-- a def -/
abbrev Fn := List W → Hh → R W

def R.bind {α β : Type} (r : R α) (f : α → Hh → R β) : R β := match r with
  | .ok x h => f x h
  | .ex e h => .ex e h
  | .bad => .bad
def R.of {α : Type} : Option (α × Hh) → R α
  | some (x, h) => .ok x h
  | none => .bad
@[simp] theorem R.bind_ok {α β : Type} (x : α) (h : Hh) (f : α → Hh → R β) : (R.ok x h).bind f = f x h := (rfl)
@[simp] theorem R.bind_ex {α β : Type} (e : Ex) (h : Hh) (f : α → Hh → R β) : (R.ex e h : R α).bind f = .ex e h := (rfl)
@[simp] theorem R.bind_bad {α β : Type} (f : α → Hh → R β) : (R.bad : R α).bind f = .bad := (rfl)
@[simp] theorem R.of_some {α : Type} (x : α) (h : Hh) : R.of (some (x, h)) = .ok x h := (rfl)
@[simp] theorem R.of_none {α : Type} : R.of (none : Option (α × Hh)) = .bad := (rfl)

abbrev sizeMax : Nat := 16777216

/-! ### values -/
abbrev W.int (i : Int) : W := .d (.int i)
abbrev W.bool (b : Bool) : W := .d (.bool b)
abbrev W.str (s : Str) : W := .d (.str s)
abbrev W.non : W := .d .none
def allD : List W → Option (List PyData)
  | [] => some []
  | .d x :: r => (allD r).map (x :: ·)
  | _ :: _ => none
def mkTup (ws : List W) : W := match allD ws with
  | some xs => .d (.tuple xs)
  | none => .mix ws
@[simp] theorem allD_map (xs : List PyData) : allD (xs.map W.d) = some xs := by
  induction xs with
  | nil => rfl
  | cons x r ih => simp [allD, ih]
@[simp] theorem mkTup_map (xs : List PyData) : mkTup (xs.map W.d) = .d (.tuple xs) := by simp [mkTup]
/-- the items of a tuple -/
def W.items : W → Option (List W)
  | .d (.tuple xs) => some (xs.map .d)
  | .mix ws => some ws
  | _ => none
@[simp] theorem W.items_d (xs : List PyData) : (W.d (.tuple xs)).items = some (xs.map .d) := (rfl)
/-! no object from place n on -/
mutual
def W.und (n : Nat) : W → Bool
  | .d _ => true
  | .ref a => decide (a < n)
  | .mix ws => W.unds n ws
def W.unds (n : Nat) : List W → Bool
  | [] => true
  | w :: ws => w.und n && W.unds n ws
end
@[simp] theorem W.und_d (n : Nat) (x : PyData) : (W.d x).und n = true := by simp [W.und]
@[simp] theorem W.und_ref (n a : Nat) : (W.ref a).und n = decide (a < n) := by simp [W.und]
def O.und (n : Nat) : O → Bool
  | .lst ws => ws.all (W.und n)
  | .dk kvs => kvs.all fun kv => kv.2.und n
  | .dt kvs => kvs.all fun kv => kv.2.und n
  | .ins _ fs => fs.all fun kv => kv.2.und n

open Classical in
/-- what is left behind a call: no object that nobody can reach -/
noncomputable def gc (M : Hh) (w : W) (M' : Hh) : Hh :=
  if w.und M.length = true ∧ (M'.take M.length = M ∨ ((M'.take M.length).all (O.und M.length) = true ∧ M.length ≤ M'.length)) then M'.take M.length else M'
theorem gc_same (M : Hh) (w : W) (h : w.und M.length = true) : gc M w M = M := by simp [gc, h]
theorem gc_app (M G : Hh) (w : W) (h : w.und M.length = true) : gc M w (M ++ G) = M := by simp [gc, h]
@[simp] theorem gc_d (M : Hh) (x : PyData) : gc M (.d x) M = M := gc_same _ _ (by simp)
@[simp] theorem gc_d_app (M G : Hh) (x : PyData) : gc M (.d x) (M ++ G) = M := gc_app _ _ _ (by simp)

/-! ### expressions -/
def eVar (i : Nat) : EM := fun L h => match L[i]? with
  | some (some w) => .ok w h
  | _ => .bad
def eCon (w : W) : EM := fun _ h => .ok w h
def aNil : AM := fun _ h => .ok [] h
def aCons (a : EM) (r : AM) : AM := fun L h => (a L h).bind fun x h => (r L h).bind fun xs h => .ok (x :: xs) h
def eTup (a : AM) : EM := fun L h => (a L h).bind fun xs h => if xs.length ≤ sizeMax then .ok (mkTup xs) h else .bad
def eLst (a : AM) : EM := fun L h => (a L h).bind fun xs h => if xs.length ≤ sizeMax then .ok (.ref h.length) (h ++ [.lst xs]) else .bad
def eOp1 (f : Op1) (a : EM) : EM := fun L h => (a L h).bind fun x h => .of (f x h)
def eOp2 (f : Op2) (a b : EM) : EM := fun L h => (a L h).bind fun x h => (b L h).bind fun y h => .of (f x y h)
def eOpN (f : OpN) (a : AM) : EM := fun L h => (a L h).bind fun xs h => .of (f xs h)
def eCall (f : Fn) (a : AM) : EM := fun L h => (a L h).bind fun xs h => f xs h
def eIf (t : TM) (a b : EM) : EM := fun L h => (t L h).bind fun c h => if c = true then a L h else b L h
/-- a value that is a bool -/
def asBool : W → Option Bool
  | .d (.bool b) => some b
  | _ => none
def eAnd (a b : EM) : EM := fun L h => (a L h).bind fun x h => match asBool x with
  | some true => b L h
  | some false => .ok (W.bool false) h
  | none => .bad
def eOr (a b : EM) : EM := fun L h => (a L h).bind fun x h => match asBool x with
  | some true => .ok (W.bool true) h
  | some false => b L h
  | none => .bad
def eNot (a : EM) : EM := fun L h => (a L h).bind fun x h => match asBool x with
  | some c => .ok (W.bool !c) h
  | none => .bad
/-- a f b g c, b asked once -/
def eChain (f g : Op2) (a b c : EM) : EM := fun L h => (a L h).bind fun x h => (b L h).bind fun y h => (R.of (f x y h)).bind fun r h => match asBool r with
  | some true => (c L h).bind fun z h => .of (g y z h)
  | some false => .ok (W.bool false) h
  | none => .bad
open Classical in
noncomputable def eGc (m : EM) : EM := fun L h => (m L h).bind fun w h' => .ok w (if w.und h.length = true ∧ h'.take h.length = h then h else h')

/-! ### tests -/
def tVal (a : EM) : TM := fun L h => (a L h).bind fun x h => match asBool x with
  | some b => .ok b h
  | none => .bad
def tAnd (a b : TM) : TM := fun L h => (a L h).bind fun c h => if c = true then b L h else .ok false h
def tOr (a b : TM) : TM := fun L h => (a L h).bind fun c h => if c = true then .ok true h else b L h
def tNot (a : TM) : TM := fun L h => (a L h).bind fun c h => .ok (!c) h
def tYes : TM := fun _ h => .ok true h

/-! ### what is walked -/
inductive Src where
  | tp (ws : List W)
  | ls (a : Nat) (ws : List W)
  | rg (lo : Int) (n : Nat)
def rgItems (lo : Int) (n : Nat) : List W := (List.range n).map fun (i : Nat) => W.int (lo + (i : Int))
def Src.items : Src → List W
  | .tp ws => ws
  | .ls _ ws => ws
  | .rg lo n => rgItems lo n
/-- the list that is walked stands as it was -/
def Src.ok : Src → Hh → Prop
  | .ls a ws, h => h[a]? = some (.lst ws)
  | _, _ => True
abbrev IM := Loc → Hh → R Src
def iSeq (a : EM) : IM := fun L h => (a L h).bind fun x h => match x with
  | .ref a => (match h[a]? with
    | some (.lst ws) => .ok (.ls a ws) h
    | _ => .bad)
  | w => (match w.items with
    | some ws => .ok (.tp ws) h
    | none => .bad)
def iRange1 (a : EM) : IM := fun L h => (a L h).bind fun x h => match x with
  | .d (.int n) => if -4611686018427387904 ≤ n ∧ n < 4611686018427387904 then .ok (.rg 0 n.toNat) h else .bad
  | _ => .bad
def iRange2 (a b : EM) : IM := fun L h => (a L h).bind fun x h => (b L h).bind fun y h => match x, y with
  | .d (.int lo), .d (.int hi) => if (-4611686018427387904 ≤ lo ∧ lo < 4611686018427387904) ∧ -4611686018427387904 ≤ hi ∧ hi < 4611686018427387904 then .ok (.rg lo (hi - lo).toNat) h else .bad
  | _, _ => .bad

/-! ### targets -/
inductive Tg where
  | nm (i : Nat)
  | tp (ts : List Nat)
def setAll : List Nat → List W → Loc → Option Loc
  | [], [], L => some L
  | i :: is, w :: ws, L => setAll is ws (L.set i (some w))
  | _, _, _ => none
def Tg.put : Tg → W → Loc → Option Loc
  | .nm i, w, L => some (L.set i (some w))
  | .tp is, w, L => match w.items with
    | some ws => setAll is ws L
    | none => none

def Tg.ixs : Tg → List Nat
  | .nm i => [i]
  | .tp is => is
/-! ### list comprehensions -/
def wipeL (L : Loc) : List Nat → Loc
  | [] => L
  | v :: vs => (wipeL L vs).set v none
open Classical in
/-- the turns of a comprehension: D the new list -/
noncomputable def compL (ok : Hh → Prop) (vs : List Nat) (g : Tg) (t : TM) (e : EM) (D : Nat) (L : Loc) : List W → Hh → R W
  | [], h => if ok h then .ok (.ref D) h else .bad
  | w :: ws, h => if ok h then (match g.put w (wipeL L vs) with
    | none => .bad
    | some L1 => (t L1 h).bind fun b h => if b = true then (e L1 h).bind fun x h => (match h[D]? with
        | some (.lst acc) => if acc.length < sizeMax then compL ok vs g t e D L ws (h.set D (.lst (acc ++ [x]))) else .bad
        | _ => .bad)
      else compL ok vs g t e D L ws h) else .bad
/-- what a comprehension raises is not served -/
def noEx {α : Type} : R α → R α
  | .ex _ _ => .bad
  | r => r
noncomputable def eComp (i : IM) (vs : List Nat) (g : Tg) (t : TM) (e : EM) : EM := fun L h => (i L h).bind fun s h =>
  compL s.ok vs g (fun L h => noEx (t L h)) (fun L h => noEx (e L h)) h.length L s.items (h ++ [.lst []])

/-! ### statements -/
inductive Out where
  | nx (L : Loc) (h : Hh)
  | rt (w : W) (h : Hh)
  | bk (L : Loc) (h : Hh)
  | ct (L : Loc) (h : Hh)
  | ex (e : Ex) (L : Loc) (h : Hh)
  | bad
abbrev SM := Loc → Hh → Out
def R.then {α : Type} (r : R α) (L : Loc) (f : α → Hh → Out) : Out := match r with
  | .ok x h => f x h
  | .ex e h => .ex e L h
  | .bad => .bad
@[simp] theorem R.then_ok {α : Type} (x : α) (h : Hh) (L : Loc) (f : α → Hh → Out) : (R.ok x h).then L f = f x h := (rfl)
@[simp] theorem R.then_ex {α : Type} (e : Ex) (h : Hh) (L : Loc) (f : α → Hh → Out) : (R.ex e h : R α).then L f = .ex e L h := (rfl)
@[simp] theorem R.then_bad {α : Type} (L : Loc) (f : α → Hh → Out) : (R.bad : R α).then L f = .bad := (rfl)
def Out.seq (o : Out) (f : SM) : Out := match o with
  | .nx L h => f L h
  | o => o
@[simp] theorem Out.seq_nx (L : Loc) (h : Hh) (f : SM) : (Out.nx L h).seq f = f L h := (rfl)
@[simp] theorem Out.seq_rt (w : W) (h : Hh) (f : SM) : (Out.rt w h).seq f = .rt w h := (rfl)
@[simp] theorem Out.seq_bk (L : Loc) (h : Hh) (f : SM) : (Out.bk L h).seq f = .bk L h := (rfl)
@[simp] theorem Out.seq_ct (L : Loc) (h : Hh) (f : SM) : (Out.ct L h).seq f = .ct L h := (rfl)
@[simp] theorem Out.seq_ex (e : Ex) (L : Loc) (h : Hh) (f : SM) : (Out.ex e L h).seq f = .ex e L h := (rfl)
@[simp] theorem Out.seq_bad (f : SM) : Out.bad.seq f = .bad := (rfl)
def sNil : SM := fun L h => .nx L h
def sCons (a b : SM) : SM := fun L h => (a L h).seq b
def sBreak : SM := fun L h => .bk L h
def sCont : SM := fun L h => .ct L h
def sExpr (e : EM) : SM := fun L h => (e L h).then L fun _ h => .nx L h
def sRet (e : EM) : SM := fun L h => (e L h).then L fun w h => .rt w h
def sRetN : SM := fun _ h => .rt .non h
def sIf (t : TM) (a b : SM) : SM := fun L h => (t L h).then L fun c h => if c = true then a L h else b L h
def sAsg (g : Tg) (e : EM) : SM := fun L h => (e L h).then L fun w h => match g.put w L with
  | some L' => .nx L' h
  | none => .bad
/-- o[i] = e: the value first -/
def sSet (f : W → W → W → Hh → Option Hh) (o i e : EM) : SM := fun L h => (e L h).then L fun v h => (o L h).then L fun x h => (i L h).then L fun y h => match f x y v h with
  | some h => .nx L h
  | none => .bad
open Classical in
noncomputable def forL (ok : Hh → Prop) (g : Tg) (body : SM) : List W → Loc → Hh → Out
  | [], L, h => if ok h then .nx L h else .bad
  | w :: ws, L, h => if ok h then (match g.put w L with
    | none => .bad
    | some L1 => (match body L1 h with
      | .nx L2 h2 => forL ok g body ws L2 h2
      | .ct L2 h2 => forL ok g body ws L2 h2
      | .bk L2 h2 => .nx L2 h2
      | o => o)) else .bad
noncomputable def sFor (i : IM) (g : Tg) (body : SM) : SM := fun L h => (i L h).then L fun s h => forL s.ok g body s.items L h
def whileL (t : TM) (body : SM) : Nat → Loc → Hh → Out
  | 0, _, _ => .bad
  | n + 1, L, h => (t L h).then L fun c h => if c = true then (match body L h with
      | .nx L2 h2 => whileL t body n L2 h2
      | .ct L2 h2 => whileL t body n L2 h2
      | .bk L2 h2 => .nx L2 h2
      | o => o) else .nx L h
/-- a while loop: the number of turns is bounded by n, which may depend on the state ahead of it -/
def sWhile (n : Nat) (t : TM) (body : SM) : SM := fun L h => whileL t body n L h

/-- names that are not asked any more -/
def forget (L : Loc) : List Nat → Loc
  | [] => L
  | v :: vs => (forget L vs).set v none
def locUnd (n : Nat) (L : Loc) : Bool := L.all fun o => match o with
  | some w => w.und n
  | none => true
open Classical in
noncomputable def gcS (M : Hh) (L : Loc) (M' : Hh) : Hh :=
  if locUnd M.length L = true ∧ (M'.take M.length = M ∨ ((M'.take M.length).all (O.und M.length) = true ∧ M.length ≤ M'.length)) then M'.take M.length else M'
/-- behind a block: names are forgotten, objects that nobody can reach are gone -/
noncomputable def sScope (dead : List Nat) (m : SM) : SM := fun L h => match m L h with
  | .nx L2 h2 => .nx (forget L2 dead) (gcS h (forget L2 dead) h2)
  | .ct L2 h2 => .ct (forget L2 dead) (gcS h (forget L2 dead) h2)
  | o => o
open Classical in
noncomputable def tGc (t : TM) : TM := fun L h => (t L h).bind fun b h' => .ok b (if h'.take h.length = h then h else h')
/-- a def of k slots by its body -/
def outR (h : Hh) : Out → R W
  | .rt w h' => .ok w h'
  | .nx _ h' => .ok .non h'
  | .ex e _ h' => .ex e h'
  | _ => .bad
noncomputable def tidy (h : Hh) : R W → R W
  | .ok w h' => .ok w (gc h w h')
  | r => r
noncomputable def fn (n k : Nat) (body : SM) : Fn := fun ws h => if ws.length = n then tidy h (outR h (body (ws.map some ++ List.replicate (k - ws.length) none) h)) else .bad
@[simp] theorem tidy_ok (h h' : Hh) (w : W) : tidy h (.ok w h') = .ok w (gc h w h') := (rfl)
@[simp] theorem tidy_ex (h h' : Hh) (e : Ex) : tidy h (.ex e h') = .ex e h' := (rfl)
@[simp] theorem outR_rt (h h' : Hh) (w : W) : outR h (.rt w h') = .ok w h' := (rfl)
@[simp] theorem outR_nx (h h' : Hh) (L : Loc) : outR h (.nx L h') = .ok .non h' := (rfl)
@[simp] theorem outR_ex (h h' : Hh) (e : Ex) (L : Loc) : outR h (.ex e L h') = .ex e h' := (rfl)
end Mi
end

section
set_option maxHeartbeats 4000000
/-! MiR: how the evaluator's states stand for the hand layer's, and the judgements over them. -/
namespace Mi
open PySem PySem.Spec PyProof.Rows L2

abbrev Fr := PySem.W.Frag
abbrev Mg := Str → Option Value
/-- where the objects stand -/
abbrev Phi := List Addr

/-- a list that is only read -/
def RoL (K : Fr) (H : Hp) (a : Addr) (xs : List V) : Prop := (∃ o, H a = some (.frz o (.lst xs))) ∨
  ∃ (o : Obj) (its : Array Value) (n : Nat), K.lookup a = some o ∧ o.cls = .type "list" ∧ o.dict = none ∧ o.data = .seq its n ∧ its.size ≤ sizeLine ∧ Vals xs its.toList
theorem RoL.sq {K : Fr} {H : Hp} {a : Addr} {xs : List V} (h : RoL K H a xs) : SqL K H a xs := h.elim (fun z => .inl (.inr z)) .inr
mutual
inductive DR (K : Fr) (H : Hp) : V → PyData → Prop
  | non : DR K H .non .none
  | bl (b : Bool) : DR K H (.bl b) (.bool b)
  | int (i : Int) : DR K H (.int i) (.int i)
  | str (x : Str) (ok : PyData.strOk x = true) : DR K H (.str x) (.str x)
  | tup {a : Addr} {xs : List V} {ds : List PyData} : H a = some (.tup xs) → DRs K H xs ds → DR K H (.ref a) (.tuple ds)
  | rol {a : Addr} {xs : List V} {ds : List PyData} : RoL K H a xs → DRs K H xs ds → DR K H (.ref a) (.list ds)
inductive DRs (K : Fr) (H : Hp) : List V → List PyData → Prop
  | nil : DRs K H [] []
  | cons {v : V} {vs : List V} {x : PyData} {xs : List PyData} : DR K H v x → DRs K H vs xs → DRs K H (v :: vs) (x :: xs)
end
mutual
inductive VR (K : Fr) (φ : Phi) (H : Hp) : V → W → Prop
  | d {v : V} {x : PyData} : DR K H v x → VR K φ H v (.d x)
  | ref {a : Addr} {i : Nat} : φ[i]? = some a → VR K φ H (.ref a) (.ref i)
  | mix {a : Addr} {vs : List V} {ws : List W} : H a = some (.tup vs) → VRs K φ H vs ws → VR K φ H (.ref a) (.mix ws)
inductive VRs (K : Fr) (φ : Phi) (H : Hp) : List V → List W → Prop
  | nil : VRs K φ H [] []
  | cons {v : V} {vs : List V} {w : W} {ws : List W} : VR K φ H v w → VRs K φ H vs ws → VRs K φ H (v :: vs) (w :: ws)
end
/-- tuples stand -/
def TK (K : Fr) (H H' : Hp) : Prop := (∀ a xs, H a = some (.tup xs) → H' a = some (.tup xs)) ∧ ∀ a o u, H a = some (.frz o u) → H' a = some (.frz o u)
theorem TK.refl {K : Fr} {H : Hp} : TK K H H := ⟨fun _ _ h => h, fun _ _ _ h => h⟩
theorem TK.trans {K : Fr} {H H1 H2 : Hp} (a : TK K H H1) (b : TK K H1 H2) : TK K H H2 := ⟨fun c xs h => b.1 c xs (a.1 c xs h), fun c o u h => b.2 c o u (a.2 c o u h)⟩
theorem RoL.mono {K : Fr} {H H' : Hp} {a : Addr} {xs : List V} (t : TK K H H') (h : RoL K H a xs) : RoL K H' a xs := h.imp (fun ⟨o, z⟩ => ⟨o, t.2 _ _ _ z⟩) id
def Ext (φ φ' : Phi) : Prop := ∀ (i : Nat) (a : Addr), φ[i]? = some a → φ'[i]? = some a
theorem Ext.refl {φ : Phi} : Ext φ φ := fun _ _ h => h
theorem Ext.trans {a b c : Phi} (x : Ext a b) (y : Ext b c) : Ext a c := fun i z h => y i z (x i z h)
theorem Ext.app {φ : Phi} {ψ : Phi} : Ext φ (φ ++ ψ) := fun i a h => by
  have hl : i < φ.length := (List.getElem?_eq_some_iff.mp h).1
  rw [List.getElem?_append_left hl]; exact h
section
variable {K : Fr} {H H' : Hp} {φ φ' : Phi}
mutual
theorem DR.mono (t : TK K H H') : ∀ {v : V} {x : PyData}, DR K H v x → DR K H' v x
  | _, _, .non => .non
  | _, _, .bl b => .bl b
  | _, _, .int i => .int i
  | _, _, .str x ok => .str x ok
  | _, _, .tup s r => .tup (t.1 _ _ s) (DRs.mono t r)
  | _, _, .rol s r => .rol (s.mono t) (DRs.mono t r)
theorem DRs.mono (t : TK K H H') : ∀ {vs : List V} {xs : List PyData}, DRs K H vs xs → DRs K H' vs xs
  | _, _, .nil => .nil
  | _, _, .cons r s => .cons (DR.mono t r) (DRs.mono t s)
end
mutual
theorem VR.mono (e : Ext φ φ') (t : TK K H H') : ∀ {v : V} {w : W}, VR K φ H v w → VR K φ' H' v w
  | _, _, .d r => .d (r.mono t)
  | _, _, .ref h => .ref (e _ _ h)
  | _, _, .mix s r => .mix (t.1 _ _ s) (VRs.mono e t r)
theorem VRs.mono (e : Ext φ φ') (t : TK K H H') : ∀ {vs : List V} {ws : List W}, VRs K φ H vs ws → VRs K φ' H' vs ws
  | _, _, .nil => .nil
  | _, _, .cons r s => .cons (VR.mono e t r) (VRs.mono e t s)
end
theorem VRs.length : ∀ {vs : List V} {ws : List W}, VRs K φ H vs ws → vs.length = ws.length
  | _, _, .nil => rfl
  | _, _, .cons _ r => by rw [List.length_cons, List.length_cons, VRs.length r]
theorem VRs.get : ∀ {vs : List V} {ws : List W} {i : Nat} {v : V}, VRs K φ H vs ws → vs[i]? = some v → ∃ w, ws[i]? = some w ∧ VR K φ H v w
  | _, _, 0, _, .cons r _, h => by simp at h; subst h; exact ⟨_, rfl, r⟩
  | _, _, i + 1, _, .cons _ s, h => by
    obtain ⟨w, h1, h2⟩ := VRs.get (i := i) s (by simpa using h)
    exact ⟨w, by simpa using h1, h2⟩
  | _, _, _, _, .nil, h => by simp at h
theorem VRs.get' : ∀ {vs : List V} {ws : List W} {i : Nat} {w : W}, VRs K φ H vs ws → ws[i]? = some w → ∃ v, vs[i]? = some v ∧ VR K φ H v w
  | _, _, 0, _, .cons r _, h => by simp at h; subst h; exact ⟨_, rfl, r⟩
  | _, _, i + 1, _, .cons _ s, h => by
    obtain ⟨w, h1, h2⟩ := VRs.get' (i := i) s (by simpa using h)
    exact ⟨w, by simpa using h1, h2⟩
  | _, _, _, _, .nil, h => by simp at h
theorem VRs.append : ∀ {vs us : List V} {ws zs : List W}, VRs K φ H vs ws → VRs K φ H us zs → VRs K φ H (vs ++ us) (ws ++ zs)
  | _, _, _, _, .nil, s => s
  | _, _, _, _, .cons r t, s => .cons r (VRs.append t s)
theorem VRs.set : ∀ {vs : List V} {ws : List W} (i : Nat) {v : V} {w : W}, VRs K φ H vs ws → VR K φ H v w → VRs K φ H (vs.set i v) (ws.set i w)
  | _, _, _, _, _, .nil, _ => .nil
  | _, _, 0, _, _, .cons _ t, r => .cons r t
  | _, _, i + 1, _, _, .cons q t, r => .cons q (VRs.set i t r)
theorem VRs.take : ∀ {vs : List V} {ws : List W} (n : Nat), VRs K φ H vs ws → VRs K φ H (vs.take n) (ws.take n)
  | _, _, 0, _ => .nil
  | _, _, _ + 1, .nil => .nil
  | _, _, n + 1, .cons r t => .cons r (VRs.take n t)
theorem VRs.drop : ∀ {vs : List V} {ws : List W} (n : Nat), VRs K φ H vs ws → VRs K φ H (vs.drop n) (ws.drop n)
  | _, _, 0, r => r
  | _, _, _ + 1, .nil => .nil
  | _, _, n + 1, .cons _ t => VRs.drop n t
theorem VRs.ofD : ∀ {vs : List V} {xs : List PyData}, DRs K H vs xs → VRs K φ H vs (xs.map .d)
  | _, _, .nil => .nil
  | _, _, .cons r s => .cons (.d r) (VRs.ofD s)
theorem VRs.toD : ∀ {vs : List V} {ws : List W} {xs : List PyData}, VRs K φ H vs ws → allD ws = some xs → DRs K H vs xs
  | _, _, xs, .nil, h => by cases h; exact .nil
  | _, _, xs, .cons (w := w) (ws := ws) r s, h => by
    cases r with
    | d r =>
      simp only [allD] at h
      cases e : allD ws with
      | none => rw [e] at h; cases h
      | some ys => rw [e] at h; cases h; exact .cons r (VRs.toD s e)
    | ref => cases h
    | mix => cases h
theorem VR.items {v : V} {w : W} {ws : List W} (r : VR K φ H v w) (e : w.items = some ws) : ∃ a vs, v = .ref a ∧ H a = some (.tup vs) ∧ VRs K φ H vs ws := by
  cases r with
  | d r => cases r with
    | tup s r => simp [W.items] at e; subst e; exact ⟨_, _, rfl, s, VRs.ofD r⟩
    | _ => simp [W.items] at e
  | ref _ => simp [W.items] at e
  | mix s r => simp [W.items] at e; subst e; exact ⟨_, _, rfl, s, r⟩
theorem VR.mkTup {a : Addr} {vs : List V} {ws : List W} (s : H a = some (.tup vs)) (r : VRs K φ H vs ws) : VR K φ H (.ref a) (Mi.mkTup ws) := by
  unfold Mi.mkTup
  split
  · rename_i xs e; exact .d (.tup s (r.toD e))
  · exact .mix s r
end

/-- an object as it stands -/
def OR (K : Fr) (mg : Mg) (φ : Phi) (H : Hp) (a : Addr) : O → Prop
  | .lst ws => ∃ vs, H a = some (.lst vs) ∧ VRs K φ H vs ws
  | .dk kvs => ∃ ks, H a = some (.dK ks) ∧ ks.map (·.1) = kvs.map (·.1) ∧ VRs K φ H (ks.map (·.2)) (kvs.map (·.2))
  | .dt kvs => ∃ ks, H a = some (.dT ks) ∧ ks.map (·.1) = kvs.map (·.1) ∧ VRs K φ H (ks.map (·.2)) (kvs.map (·.2))
  | .ins c fs => ∃ C dx gs, mg c = some (.ref C) ∧ H a = some (.ins C dx gs) ∧ gs.map (·.1) = fs.map (·.1) ∧ VRs K φ H (gs.map (·.2)) (fs.map (·.2))
structure Rel (K : Fr) (mg : Mg) (φ : Phi) (M : Hh) (H : Hp) : Prop where
  len : φ.length = M.length
  nd : ∀ (i j : Nat) (a : Addr), φ[i]? = some a → φ[j]? = some a → i = j
  ob : ∀ (i : Nat) (a : Addr) (o : O), φ[i]? = some a → M[i]? = some o → OR K mg φ H a o
def LR (K : Fr) (φ : Phi) (H : Hp) (σ : L2.St) (L : Loc) : Prop := σ.length = L.length ∧ ∀ (i : Nat) (w : W), L[i]? = some (some w) → ∃ v, σ[i]? = some (some v) ∧ VR K φ H v w
section
variable {K : Fr} {mg : Mg} {H H' : Hp} {φ φ' : Phi} {M M' : Hh}
theorem OR.tracked {a : Addr} {o : O} (h : OR K mg φ H a o) : ∃ u, H a = some u ∧ (∀ xs, u ≠ .tup xs) ∧ ∀ ob z, u ≠ .frz ob z := by
  cases o with
  | lst ws => obtain ⟨vs, h, _⟩ := h; exact ⟨_, h, (by intro _ e; cases e), (by intro _ _ e; cases e)⟩
  | dk kvs => obtain ⟨vs, h, _⟩ := h; exact ⟨_, h, (by intro _ e; cases e), (by intro _ _ e; cases e)⟩
  | dt kvs => obtain ⟨vs, h, _⟩ := h; exact ⟨_, h, (by intro _ e; cases e), (by intro _ _ e; cases e)⟩
  | ins c fs => obtain ⟨C, dx, gs, _, h, _⟩ := h; exact ⟨_, h, (by intro _ e; cases e), (by intro _ _ e; cases e)⟩
theorem OR.mono {a : Addr} {o : O} (e : Ext φ φ') (t : TK K H H') (k : H' a = H a) (h : OR K mg φ H a o) : OR K mg φ' H' a o := by
  cases o with
  | lst ws => obtain ⟨vs, h, r⟩ := h; exact ⟨vs, k.trans h, r.mono e t⟩
  | dk kvs => obtain ⟨vs, h, q, r⟩ := h; exact ⟨vs, k.trans h, q, r.mono e t⟩
  | dt kvs => obtain ⟨vs, h, q, r⟩ := h; exact ⟨vs, k.trans h, q, r.mono e t⟩
  | ins c fs => obtain ⟨C, dx, gs, q0, h, q, r⟩ := h; exact ⟨C, dx, gs, q0, k.trans h, q, r.mono e t⟩
theorem Rel.at (R : Rel K mg φ M H) {i : Nat} {o : O} (h : M[i]? = some o) : ∃ a, φ[i]? = some a ∧ OR K mg φ H a o := by
  have hi : i < φ.length := by rw [R.len]; exact (List.getElem?_eq_some_iff.mp h).1
  exact ⟨φ[i], by simp [hi], R.ob i _ o (by simp [hi]) h⟩
theorem Rel.ob' (R : Rel K mg φ M H) {i : Nat} {a : Addr} {o : O} (h : M[i]? = some o) (e : φ[i]? = some a) : OR K mg φ H a o := R.ob i a o e h
/-- an address of the objects is tracked -/
theorem Rel.tracked (R : Rel K mg φ M H) {i : Nat} {a : Addr} (h : φ[i]? = some a) : ∃ u, H a = some u := by
  have hi : i < M.length := by rw [← R.len]; exact (List.getElem?_eq_some_iff.mp h).1
  obtain ⟨u, h, _⟩ := (R.ob i a M[i] h (by simp [hi])).tracked
  exact ⟨u, h⟩
theorem TK.laid {p : Addr} {o : HO} (h : H p = none) : TK K H (upd H p o) :=
  ⟨fun a xs s => by rw [upd_ne (ne_of_none s h)]; exact s, fun a ob z s => by rw [upd_ne (ne_of_none s h)]; exact s⟩
theorem TK.write {p : Addr} {o u : HO} (h : H p = some u) (h1 : ∀ xs, u ≠ .tup xs) (h2 : ∀ ob z, u ≠ .frz ob z) : TK K H (upd H p o) :=
  ⟨fun a xs s => by rw [upd_ne (by intro e; subst e; rw [h] at s; cases s; exact h1 _ rfl)]; exact s, fun a ob z s => by rw [upd_ne (by intro e; subst e; rw [h] at s; cases s; exact h2 _ _ rfl)]; exact s⟩
theorem Rel.mono (R : Rel K mg φ M H) (t : TK K H H') (k : ∀ (i : Nat) (a : Addr), φ[i]? = some a → H' a = H a) : Rel K mg φ M H' :=
  ⟨R.len, R.nd, fun i a o h1 h2 => (R.ob i a o h1 h2).mono .refl t (k i a h1)⟩
/-- a thing is laid that is none of the objects -/
theorem Rel.other (R : Rel K mg φ M H) {p : Addr} {o : HO} (h : H p = none) : Rel K mg φ M (upd H p o) :=
  R.mono (.laid h) fun i a e => by
    obtain ⟨u, q⟩ := R.tracked e
    exact upd_ne (ne_of_none q h)
theorem getElem?_snoc {α : Type} {l : List α} {x y : α} {i : Nat} (h : (l ++ [x])[i]? = some y) : l[i]? = some y ∨ (i = l.length ∧ y = x) := by
  rcases Nat.lt_trichotomy i l.length with q | q | q
  · rw [List.getElem?_append_left q] at h; exact .inl h
  · subst q; simp at h; exact .inr ⟨rfl, h.symm⟩
  · rw [List.getElem?_append_right (by omega)] at h
    have : i - l.length ≠ 0 := by omega
    simp [List.getElem?_singleton, this] at h
/-- a new object -/
theorem Rel.new (R : Rel K mg φ M H) {p : Addr} {u : HO} {o : O} (h : H p = none) (q : OR K mg (φ ++ [p]) (upd H p u) p o) : Rel K mg (φ ++ [p]) (M ++ [o]) (upd H p u) := by
  refine ⟨by simp [R.len], fun i j a h1 h2 => ?_, fun i a o' h1 h2 => ?_⟩
  · have fresh : ∀ i : Nat, φ[i]? = some p → False := fun i e => by
      obtain ⟨u, q⟩ := R.tracked e
      rw [h] at q; cases q
    rcases getElem?_snoc h1 with k1 | ⟨k1, l1⟩
    · rcases getElem?_snoc h2 with k2 | ⟨k2, l2⟩
      · exact R.nd i j a k1 k2
      · rw [l2] at k1; exact (fresh i k1).elim
    · rcases getElem?_snoc h2 with k2 | ⟨k2, l2⟩
      · rw [l1] at k2; exact (fresh j k2).elim
      · omega
  · rcases getElem?_snoc h1 with h1 | ⟨h1, h1'⟩
    · have hi : i < M.length := by rw [← R.len]; exact (List.getElem?_eq_some_iff.mp h1).1
      rw [List.getElem?_append_left hi] at h2
      obtain ⟨u, z⟩ := R.tracked h1
      exact (R.ob i a o' h1 h2).mono .app (.laid h) (upd_ne (ne_of_none z h))
    · subst h1 h1'
      rw [R.len] at h2
      simp at h2
      subst h2
      exact q
/-- an object is written -/
theorem Rel.write (R : Rel K mg φ M H) {i : Nat} {a : Addr} {o : O} {u u' : HO} (e : φ[i]? = some a) (hu : H a = some u) (h1 : ∀ xs, u ≠ .tup xs) (h2 : ∀ ob z, u ≠ .frz ob z) (q : OR K mg φ (upd H a u') a o) :
    Rel K mg φ (M.set i o) (upd H a u') := by
  refine ⟨by simp [R.len], R.nd, fun j b o' e1 e2 => ?_⟩
  by_cases hj : i = j
  · subst hj
    rw [e] at e1; cases e1
    have hi : i < M.length := by rw [← R.len]; exact (List.getElem?_eq_some_iff.mp e).1
    rw [List.getElem?_set_self hi] at e2; cases e2
    exact q
  · rw [List.getElem?_set_ne hj] at e2
    refine (R.ob j b o' e1 e2).mono .refl (.write hu h1 h2) (upd_ne fun z => ?_)
    subst z
    exact hj (R.nd i j _ e e1)
theorem LR.mono {σ : L2.St} {L : Loc} (e : Ext φ φ') (t : TK K H H') (h : LR K φ H σ L) : LR K φ' H' σ L :=
  ⟨h.1, fun i w q => let ⟨v, a, b⟩ := h.2 i w q; ⟨v, a, b.mono e t⟩⟩
theorem LR.set {σ : L2.St} {L : Loc} (h : LR K φ H σ L) {i : Nat} {v : V} {w : W} (r : VR K φ H v w) : LR K φ H (σ.set i (some v)) (L.set i (some w)) := by
  refine ⟨by simp [h.1], fun j w' q => ?_⟩
  by_cases hj : i = j
  · subst hj
    by_cases hi : i < L.length
    · rw [List.getElem?_set_self hi] at q; cases q
      exact ⟨v, List.getElem?_set_self (by rw [h.1]; exact hi), r⟩
    · rw [List.getElem?_eq_none (by simpa using hi)] at q; cases q
  · rw [List.getElem?_set_ne hj] at q
    obtain ⟨v', a, b⟩ := h.2 j w' q
    exact ⟨v', by rw [List.getElem?_set_ne hj]; exact a, b⟩
theorem LR.setNone {σ : L2.St} {L : Loc} (h : LR K φ H σ L) (i : Nat) : LR K φ H (σ.set i none) (L.set i none) := by
  refine ⟨by simp [h.1], fun j w' q => ?_⟩
  by_cases hj : i = j
  · subst hj
    by_cases hi : i < L.length
    · rw [List.getElem?_set_self hi] at q; cases q
    · rw [List.getElem?_eq_none (by simpa using hi)] at q; cases q
  · rw [List.getElem?_set_ne hj] at q
    obtain ⟨v', a, b⟩ := h.2 j w' q
    exact ⟨v', by rw [List.getElem?_set_ne hj]; exact a, b⟩
theorem LR.wipe {σ : L2.St} {L : Loc} (h : LR K φ H σ L) : ∀ vs : List Nat, LR K φ H (L2.wipe σ vs) (wipeL L vs)
  | [] => h
  | v :: vs => by
    unfold L2.wipe wipeL
    exact (LR.wipe h vs).setNone v
theorem LR.start {vs : List V} {ws : List W} (N : List Str) (r : VRs K φ H vs ws) : LR K φ H (L2.start N vs) (ws.map some ++ List.replicate (N.length - ws.length) none) := by
  unfold L2.start
  have hl := r.length
  refine ⟨by simp [hl], fun i w q => ?_⟩
  by_cases hi : i < ws.length
  · rw [List.getElem?_append_left (by simpa using hi)] at q
    rw [List.getElem?_map] at q
    have q' : ws[i]? = some w := by
      cases e : ws[i]? with
      | none => rw [e] at q; cases q
      | some z => rw [e] at q; cases q; rfl
    obtain ⟨v, a, b⟩ := r.get' q'
    exact ⟨v, by rw [List.getElem?_append_left (by simp; omega), List.getElem?_map, a]; rfl, b⟩
  · rw [List.getElem?_append_right (by simpa using hi), List.getElem?_replicate] at q
    split at q <;> cases q
end

/-- an exception: its class, its own dict -/
def ER (K : Fr) (mg : Mg) (H : Hp) (cls : Value) (d : Option Addr) (x : Ex) : Prop :=
  ∃ C, mg x.cls = some (.ref C) ∧ cls = .ref C ∧ ((x.fs = [] ∧ d = none) ∨ ∃ dd gs, d = some dd ∧ H dd = some (.xd gs) ∧ gs.map (·.1) = x.fs.map (·.1) ∧ DRs K H (gs.map (·.2)) (x.fs.map (·.2)))

/-- what comes of a piece of code -/
def Res {α β : Type} (K : Fr) (mg : Mg) (rel : Phi → Hp → β → α → Prop) (φ : Phi) (H : Hp) (out : R α) (Q : β → Hp → Prop) (E : XK) : Prop := match out with
  | .ok w M' => ∀ φ' H' v, Rel K mg φ' M' H' → rel φ' H' v w → Ext φ φ' → TK K H H' → Q v H'
  | .ex x M' => ∀ φ' H' cls d, Rel K mg φ' M' H' → ER K mg H' cls d x → Ext φ φ' → TK K H H' → E cls d H'
  | .bad => False
section
variable {α β γ δ : Type} {K : Fr} {mg : Mg} {rel : Phi → Hp → β → α → Prop} {rel' : Phi → Hp → δ → γ → Prop} {φ φ' : Phi} {H H' : Hp} {Q Q' : β → Hp → Prop} {E E' : XK} {M : Hh}
theorem Res.mono {out : R α} (h : Res K mg rel φ H out Q E) (e : Ext φ φ') (t : TK K H H') : Res K mg rel φ' H' out Q E := by
  cases out with
  | ok w M' => exact fun φ2 H2 v R r e2 t2 => h φ2 H2 v R r (e.trans e2) (t.trans t2)
  | ex x M' => exact fun φ2 H2 c d R r e2 t2 => h φ2 H2 c d R r (e.trans e2) (t.trans t2)
  | bad => exact h
theorem Res.imp {out : R α} (h : Res K mg rel φ H out Q E) (hq : ∀ v H, Q v H → Q' v H) (he : ∀ c d H, E c d H → E' c d H) : Res K mg rel φ H out Q' E' := by
  cases out with
  | ok w M' => exact fun φ2 H2 v R r e2 t2 => hq _ _ (h φ2 H2 v R r e2 t2)
  | ex x M' => exact fun φ2 H2 c d R r e2 t2 => he _ _ _ (h φ2 H2 c d R r e2 t2)
  | bad => exact h
/-- one piece, then another -/
theorem Res.seq {out : R α} {f : α → Hh → R γ} {Q : δ → Hp → Prop} (h : Res K mg rel' φ H (out.bind f) Q E) :
    Res K mg rel φ H out (fun v H1 => ∃ φ1 M1 w, Rel K mg φ1 M1 H1 ∧ rel φ1 H1 v w ∧ Ext φ φ1 ∧ TK K H H1 ∧ Res K mg rel' φ1 H1 (f w M1) Q E) E := by
  cases out with
  | ok w M' => exact fun φ2 H2 v R r e2 t2 => ⟨φ2, M', w, R, r, e2, t2, Res.mono h e2 t2⟩
  | ex x M' => exact h
  | bad => exact h
/-- the end -/
theorem Res.here {w : α} {v : β} (h : Res K mg rel φ H (.ok w M) Q E) (R : Rel K mg φ M H) (r : rel φ H v w) : Q v H := h φ H v R r .refl .refl
end
abbrev relB : Phi → Hp → Bool → Bool → Prop := fun _ _ a b => a = b

/-- the judgement of an expression: m tells what it does; W: what is wanted of an exception -/
def tM (K : Fr) (mg : Mg) (Wx : WX) (m : EM) : TE := fun σ H Q => ∃ φ M L, Rel K mg φ M H ∧ LR K φ H σ L ∧ Res K mg (VR K) φ H (m L M) Q (fun c d H' => Wx c d σ H')
def tT (K : Fr) (mg : Mg) (Wx : WX) (m : TM) : TT := fun σ H Q => ∃ φ M L, Rel K mg φ M H ∧ LR K φ H σ L ∧ Res K mg relB φ H (m L M) Q (fun c d H' => Wx c d σ H')
def tA (K : Fr) (mg : Mg) (Wx : WX) (m : AM) : TA := fun σ H Q => ∃ φ M L, Rel K mg φ M H ∧ LR K φ H σ L ∧ Res K mg (VRs K) φ H (m L M) Q (fun c d H' => Wx c d σ H')
abbrev ME (X : Cx) (Wx : WX) (e : Expr) (m : EM) : Prop := PE X e (tM X.K X.mg Wx m)
abbrev MT (X : Cx) (Wx : WX) (e : Expr) (m : TM) : Prop := PT X e (tT X.K X.mg Wx m)
abbrev MWt (X : Cx) (Wx : WX) (e : Expr) (m : TM) : Prop := PW X e (tT X.K X.mg Wx m)
abbrev MA (X : Cx) (Wx : WX) (es : List Expr) (m : AM) : Prop := PA X es (tA X.K X.mg Wx m)
theorem _root_.L2.PE.imp {X : Cx} {e : Expr} {t t' : TE} (h : PE X e t) (i : ∀ σ H Q, t' σ H Q → t σ H Q) : PE X e t' := ⟨fun pins s σ H Q I q => h.run pins s σ H Q I (i σ H Q q)⟩
theorem _root_.L2.PT.imp {X : Cx} {e : Expr} {t t' : TT} (h : PT X e t) (i : ∀ σ H Q, t' σ H Q → t σ H Q) : PT X e t' := ⟨fun pins s σ H Q I q => h.run pins s σ H Q I (i σ H Q q)⟩
theorem _root_.L2.PW.imp {X : Cx} {e : Expr} {t t' : TT} (h : PW X e t) (i : ∀ σ H Q, t' σ H Q → t σ H Q) : PW X e t' := ⟨fun wh pins s σ H Q I q => h.run wh pins s σ H Q I (i σ H Q q)⟩
theorem _root_.L2.PA.imp {X : Cx} {e : List Expr} {t t' : TA} (h : PA X e t) (i : ∀ σ H Q, t' σ H Q → t σ H Q) : PA X e t' := ⟨fun pos pins s σ H Q I q => h.run pos pins s σ H Q I (i σ H Q q)⟩
theorem _root_.L2.PS.imp {X : Cx} {e : Stmt} {t t' : TS} (h : PS X e t) (i : ∀ D σ H, t' D σ H → t D σ H) : PS X e t' := ⟨fun pins s σ H D I q => h.run pins s σ H D I (i D σ H q)⟩
theorem _root_.L2.PSs.imp {X : Cx} {e : List Stmt} {t t' : TS} (h : PSs X e t) (i : ∀ D σ H, t' D σ H → t D σ H) : PSs X e t' := ⟨fun pins s σ H D I q => h.run pins s σ H D I (i D σ H q)⟩

/-- operations by values -/
def rel1 (K : Fr) (mg : Mg) (f : Op1) : V → Hp → VK → Prop := fun x H Q => ∃ φ M w, Rel K mg φ M H ∧ VR K φ H x w ∧ Res K mg (VR K) φ H (R.of (f w M)) Q E0
def rel2 (K : Fr) (mg : Mg) (f : Op2) : R2 := fun x y H Q => ∃ φ M w z, Rel K mg φ M H ∧ VR K φ H x w ∧ VR K φ H y z ∧ Res K mg (VR K) φ H (R.of (f w z M)) Q E0
def relN (K : Fr) (mg : Mg) (f : OpN) : List V → Hp → VK → Prop := fun xs H Q => ∃ φ M ws, Rel K mg φ M H ∧ VRs K φ H xs ws ∧ Res K mg (VR K) φ H (R.of (f ws M)) Q E0
theorem Res.of0 {K : Fr} {mg : Mg} {φ : Phi} {H : Hp} {o : Option (W × Hh)} {Q : VK} {E : XK} (h : Res K mg (VR K) φ H (R.of o) Q E) : Res K mg (VR K) φ H (R.of o) Q E0 := by
  cases o with
  | none => exact h
  | some p => exact h

section
variable {X : Cx} {Wx : WX} {K : Fr} {mg : Mg} {e a b c : Expr} {es : List Expr} {m ma mb mc : EM} {pos : Pos}
/-- a state to begin with -/
theorem tM.use {σ : L2.St} {H : Hp} {Q : VK} (h : tM K mg Wx m σ H Q) {Q' : VK} (hq : ∀ v H, Q v H → Q' v H) : tM K mg Wx m σ H Q' := by
  obtain ⟨φ, M, L, R, l, h⟩ := h
  exact ⟨φ, M, L, R, l, h.imp hq fun _ _ _ z => z⟩

/-! ### names, constants -/
theorem me_var (i : Nat) {x : Str} {pos : Pos} (hN : X.N[i]? = some x := by rfl) (hv : Vis X.env.scope x := by first | exact Or.inl rfl | exact Or.inr (Or.inl rfl) | exact Or.inr (Or.inr rfl)) (hd : (x == ("__debug__" : Str)) = false := by decide)
    (hcd : (x == ("__classdict__" : Str)) = false := by decide) : ME X Wx (.Name x pos) (eVar i) := (pe_var hN hv hd hcd).imp fun σ H Q h => by
  obtain ⟨φ, M, L, R, l, h⟩ := h
  unfold eVar at h
  split at h
  · rename_i w e
    obtain ⟨v, e1, r⟩ := l.2 i w e
    exact ⟨v, e1, h.here R r⟩
  · exact h.elim
theorem me_con {v : V} {w : W} (h : PE X e (tC v)) (r : ∀ φ H, VR X.K φ H v w) : ME X Wx e (eCon w) := h.imp fun σ H Q h => by
  obtain ⟨φ, M, L, R, l, h⟩ := h
  exact Res.here h R (r φ H)
theorem me_int {i j pos} : ME X Wx (.Constant (.int i) j pos) (eCon (.int i)) := me_con pe_int fun _ _ => .d (.int i)
theorem me_bool {b j pos} : ME X Wx (.Constant (.bool b) j pos) (eCon (.bool b)) := me_con pe_bl fun _ _ => .d (.bl b)
theorem me_none {j pos} : ME X Wx (.Constant .none j pos) (eCon .non) := me_con pe_non fun _ _ => .d .non
theorem me_str {x j pos} (ok : PyData.strOk x = true := by decide +kernel) : ME X Wx (.Constant (.str x) j pos) (eCon (.str x)) := me_con pe_str fun _ _ => .d (.str x ok)

/-! ### sequences of expressions -/
theorem tM_bind {f : W → Hh → R W} {σ : L2.St} {H : Hp} {Q : VK} (h : tM K mg Wx (fun L M => (m L M).bind fun w M => f w M) σ H Q) :
    tM K mg Wx m σ H (fun v H1 => ∃ φ1 M1 w, Rel K mg φ1 M1 H1 ∧ VR K φ1 H1 v w ∧ Res K mg (VR K) φ1 H1 (f w M1) Q (fun c d H' => Wx c d σ H')) := by
  obtain ⟨φ, M, L, R, l, h⟩ := h
  exact ⟨φ, M, L, R, l, (Res.seq h).imp (fun v H ⟨φ1, M1, w, h1, h2, _, _, h3⟩ => ⟨φ1, M1, w, h1, h2, h3⟩) fun _ _ _ z => z⟩
theorem ma_nil : MA X Wx [] aNil := pa_nil.imp fun σ H Q h => by
  obtain ⟨φ, M, L, R, l, h⟩ := h
  exact Res.here h R .nil
theorem ma_cons {mr : AM} (ha : ME X Wx e m) (hr : MA X Wx es mr) (hs : starEach (e :: es) X.env = (false, eval e X.env) :: starEach es X.env := by rfl) : MA X Wx (e :: es) (aCons m mr) := (pa_cons ha hr hs).imp fun σ H Q h => by
  obtain ⟨φ, M, L, R, l, h⟩ := h
  refine ⟨φ, M, L, R, l, (Res.seq h).imp (fun v H1 ⟨φ1, M1, w, R1, r1, e1, t1, h1⟩ => ?_) fun _ _ _ z => z⟩
  refine ⟨φ1, M1, L, R1, l.mono e1 t1, (Res.seq h1).imp (fun vs H2 ⟨φ2, M2, ws, R2, r2, e2, t2, h2⟩ => ?_) fun _ _ _ z => z⟩
  exact Res.here h2 R2 (.cons (r1.mono e2 t2) r2)
theorem me_op {op : Operator} {f : Op2} (ho : OpR X (binaryOp op) (rel2 X.K X.mg f)) (ha : ME X Wx a ma) (hb : ME X Wx b mb) : ME X Wx (.BinOp a op b pos) (eOp2 f ma mb) := (pe_op ho ha hb).imp fun σ H Q h => by
  obtain ⟨φ, M, L, R, l, h⟩ := h
  refine ⟨φ, M, L, R, l, (Res.seq h).imp (fun v H1 ⟨φ1, M1, w, R1, r1, e1, t1, h1⟩ => ?_) fun _ _ _ z => z⟩
  refine ⟨φ1, M1, L, R1, l.mono e1 t1, (Res.seq h1).imp (fun v2 H2 ⟨φ2, M2, w2, R2, r2, e2, t2, h2⟩ => ?_) fun _ _ _ z => z⟩
  exact ⟨φ2, M2, w, w2, R2, r1.mono e2 t2, r2, h2.of0⟩
theorem me_cmp {op : CmpOp} {f : Op2} (ho : OpR X (compareOp op) (rel2 X.K X.mg f)) (ha : ME X Wx a ma) (hb : ME X Wx b mb) (hm : behindInMarks op b = false := by first | exact nobehind _ (by decide) (by decide) | rfl) : ME X Wx (.Compare a [op] [b] pos) (eOp2 f ma mb) := (pe_cmpR ho ha hb hm).imp fun σ H Q h => by
  obtain ⟨φ, M, L, R, l, h⟩ := h
  refine ⟨φ, M, L, R, l, (Res.seq h).imp (fun v H1 ⟨φ1, M1, w, R1, r1, e1, t1, h1⟩ => ?_) fun _ _ _ z => z⟩
  refine ⟨φ1, M1, L, R1, l.mono e1 t1, (Res.seq h1).imp (fun v2 H2 ⟨φ2, M2, w2, R2, r2, e2, t2, h2⟩ => ?_) fun _ _ _ z => z⟩
  exact ⟨φ2, M2, w, w2, R2, r1.mono e2 t2, r2, h2.of0⟩
theorem me_un {op : UnaryOp} {f : Op1} (ho : UnR X (unaryOp op) (rel1 X.K X.mg f)) (ha : ME X Wx a ma) : ME X Wx (.UnaryOp op a pos) (eOp1 f ma) := (pe_un ho ha).imp fun σ H Q h => by
  obtain ⟨φ, M, L, R, l, h⟩ := h
  refine ⟨φ, M, L, R, l, (Res.seq h).imp (fun v H1 ⟨φ1, M1, w, R1, r1, e1, t1, h1⟩ => ?_) fun _ _ _ z => z⟩
  exact ⟨φ1, M1, w, R1, r1, h1.of0⟩
theorem me_ix {f : Op2} (hr : IxR X (rel2 X.K X.mg f)) (ha : ME X Wx a ma) (hb : ME X Wx b mb) (hs : PlainIx b := by exact fun _ _ => rfl) : ME X Wx (.Subscript a b pos) (eOp2 f ma mb) := (pe_ix hr ha hb hs).imp fun σ H Q h => by
  obtain ⟨φ, M, L, R, l, h⟩ := h
  refine ⟨φ, M, L, R, l, (Res.seq h).imp (fun v H1 ⟨φ1, M1, w, R1, r1, e1, t1, h1⟩ => ?_) fun _ _ _ z => z⟩
  refine ⟨φ1, M1, L, R1, l.mono e1 t1, (Res.seq h1).imp (fun v2 H2 ⟨φ2, M2, w2, R2, r2, e2, t2, h2⟩ => ?_) fun _ _ _ z => z⟩
  exact ⟨φ2, M2, w, w2, R2, r1.mono e2 t2, r2, h2.of0⟩
/-- a built-in function, a built-in class, called -/
theorem me_callB {id : String} {x : Str} {f : OpN} {mr : AM} {p : Pos} (hc : CallR X (.builtin id) (relN X.K X.mg f)) (hg : Gl X x) (hm : X.mg x = none) (ha : MA X Wx (e :: es) mr) (hv : bootBuiltins x = some (.builtin id) := by decide +kernel) (hn : x ≠ "__name__" := by decide) (hdb : (x == ("__debug__" : Str)) = false := by decide)
    (he : starEach (e :: es) X.env = (false, eval e X.env) :: starEach es X.env := by rfl) (hpl : (backTo pos (starEach es X.env)).any (·.1) = false := by rfl) : ME X Wx (.Call (.Name x p) (e :: es) [] pos) (eOpN f mr) := (pe_callB hc hg hm hv ha hn hdb he hpl).imp fun σ H Q h => by
  obtain ⟨φ, M, L, R, l, h⟩ := h
  refine ⟨φ, M, L, R, l, (Res.seq h).imp (fun v H1 ⟨φ1, M1, w, R1, r1, e1, t1, h1⟩ => ?_) fun _ _ _ z => z⟩
  exact ⟨φ1, M1, w, R1, r1, h1.of0⟩
theorem me_callTy {T : String} {x : Str} {f : OpN} {mr : AM} {p : Pos} (hc : CallR X (.type T) (relN X.K X.mg f)) (hg : Gl X x) (hm : X.mg x = none) (ha : MA X Wx (e :: es) mr) (hv : bootBuiltins x = some (.type T) := by decide +kernel) (hn : x ≠ "__name__" := by decide) (hdb : (x == ("__debug__" : Str)) = false := by decide)
    (he : starEach (e :: es) X.env = (false, eval e X.env) :: starEach es X.env := by rfl) (hpl : (backTo pos (starEach es X.env)).any (·.1) = false := by rfl) : ME X Wx (.Call (.Name x p) (e :: es) [] pos) (eOpN f mr) := (pe_callTy hc hg hm hv ha hn hdb he hpl).imp fun σ H Q h => by
  obtain ⟨φ, M, L, R, l, h⟩ := h
  refine ⟨φ, M, L, R, l, (Res.seq h).imp (fun v H1 ⟨φ1, M1, w, R1, r1, e1, t1, h1⟩ => ?_) fun _ _ _ z => z⟩
  exact ⟨φ1, M1, w, R1, r1, h1.of0⟩

/-! ### displays -/
theorem me_tup {mr : AM} {x1} (h : MA X Wx es mr) : ME X Wx (.Tuple es x1 pos) (eTup mr) := (pe_tup h).imp fun σ H Q h => by
  obtain ⟨φ, M, L, R, l, h⟩ := h
  refine ⟨φ, M, L, R, l, (Res.seq h).imp (fun vs H1 ⟨φ1, M1, ws, R1, r1, e1, t1, h1⟩ => ?_) fun _ _ _ z => z⟩
  have hl := r1.length
  split at h1
  · rename_i hz
    refine ⟨by rw [hl]; exact hz, fun p np => ?_⟩
    exact h1 φ1 _ _ (R1.other np) (VR.mkTup upd_same (r1.mono .refl (.laid np))) .refl (.laid np)
  · exact h1.elim
theorem me_lst {mr : AM} (h : MA X Wx es mr) : ME X Wx (.List es pos) (eLst mr) := (pe_lst h).imp fun σ H Q h => by
  obtain ⟨φ, M, L, R, l, h⟩ := h
  refine ⟨φ, M, L, R, l, (Res.seq h).imp (fun vs H1 ⟨φ1, M1, ws, R1, r1, e1, t1, h1⟩ => ?_) fun _ _ _ z => z⟩
  have hl := r1.length
  split at h1
  · rename_i hz
    refine ⟨by rw [hl]; exact hz, fun p np => ?_⟩
    refine h1 (φ1 ++ [p]) _ _ (R1.new np ⟨vs, upd_same, r1.mono .app (.laid np)⟩) (.ref ?_) .app (.laid np)
    rw [← R1.len]; simp
  · exact h1.elim

/-! ### tests, and, or, not, if -/
theorem asBool_VR {φ : Phi} {H : Hp} {v : V} {w : W} {k : Bool} (r : VR K φ H v w) (h : asBool w = some k) : v = .bl k := by
  cases r with
  | d r => cases r <;> simp [asBool] at h; subst h; rfl
  | ref _ => cases h
  | mix _ _ => cases h
theorem mt_val (h : ME X Wx e m) (he : ∀ whole, isTrue e X.env whole = (do let v ← whole; standAt e.pos; holding [v] (truthy v)) := by intro _; rfl) : MT X Wx e (tVal m) := (pt_val h he).imp fun σ H Q h => by
  obtain ⟨φ, M, L, R, l, h⟩ := h
  refine ⟨φ, M, L, R, l, (Res.seq h).imp (fun v H1 ⟨φ1, M1, w, R1, r1, e1, t1, h1⟩ => ?_) fun _ _ _ z => z⟩
  cases hb : asBool w with
  | none => simp only [hb] at h1; exact h1.elim
  | some k => simp only [hb] at h1; exact ⟨k, asBool_VR r1 hb, Res.here h1 R1 rfl⟩
theorem mt_cmp {op : CmpOp} {f : Op2} (ho : OpR X (compareOp op) (rel2 X.K X.mg f)) (ha : ME X Wx a ma) (hb : ME X Wx b mb) (hm : behindInMarks op b = false := by first | exact nobehind _ (by decide) (by decide) | rfl) : MT X Wx (.Compare a [op] [b] pos) (tVal (eOp2 f ma mb)) := by
  refine L2.PT.imp (t := tB (tM X.K X.mg Wx (eOp2 f ma mb))) ?_ ?_
  · refine ⟨fun pins s σ H Q I hw => ?_⟩
    refine (pt_cmp (t := tM X.K X.mg Wx (eOp2 f ma mb)) ⟨fun pins s σ H Q I h => ?_⟩ hm).run pins s σ H Q I hw
    obtain ⟨φ, M, L, R, l, h⟩ := h
    refine binT ha hb I (R := fun x y H => rel2 X.K X.mg f x y H Q) ?_ fun v u s2 x y H2 I2 rx ry q => ho pins s2 σ H2 x y v u Q I2 rx ry q
    refine ⟨φ, M, L, R, l, (Res.seq h).imp (fun v H1 ⟨φ1, M1, w, R1, r1, e1, t1, h1⟩ => ?_) fun _ _ _ z => z⟩
    refine ⟨φ1, M1, L, R1, l.mono e1 t1, (Res.seq h1).imp (fun v2 H2 ⟨φ2, M2, w2, R2, r2, e2, t2, h2⟩ => ?_) fun _ _ _ z => z⟩
    exact ⟨φ2, M2, w, w2, R2, r1.mono e2 t2, r2, h2.of0⟩
  · intro σ H Q h
    obtain ⟨φ, M, L, R, l, h⟩ := h
    refine ⟨φ, M, L, R, l, (Res.seq h).imp (fun v H1 ⟨φ1, M1, w, R1, r1, e1, t1, h1⟩ => ?_) fun _ _ _ z => z⟩
    cases hb : asBool w with
    | none => simp only [hb] at h1; exact h1.elim
    | some k => simp only [hb] at h1; exact ⟨k, asBool_VR r1 hb, Res.here h1 R1 rfl⟩
variable {t u : TM}
theorem mw_and1 (ha : MT X Wx a t) : MWt X Wx (.BoolOp .And [a] pos) t := pw_and1 ha
theorem mw_or1 (ha : MT X Wx a t) : MWt X Wx (.BoolOp .Or [a] pos) t := pw_or1 ha
theorem mw_and {rest : List Expr} (ha : MT X Wx a t) (hb : MWt X Wx (.BoolOp .And (b :: rest) pos) u) : MWt X Wx (.BoolOp .And (a :: b :: rest) pos) (tAnd t u) := (pw_and ha hb).imp fun σ H Q h => by
  obtain ⟨φ, M, L, R, l, h⟩ := h
  refine ⟨φ, M, L, R, l, (Res.seq h).imp (fun v H1 ⟨φ1, M1, w, R1, r1, e1, t1, h1⟩ => ?_) fun _ _ _ z => z⟩
  obtain rfl : v = w := r1
  cases v with
  | true => rw [if_pos rfl] at h1 ⊢; exact ⟨φ1, M1, L, R1, l.mono e1 t1, h1⟩
  | false => rw [if_neg Bool.false_ne_true] at h1 ⊢; exact Res.here h1 R1 rfl
theorem mw_or {rest : List Expr} (ha : MT X Wx a t) (hb : MWt X Wx (.BoolOp .Or (b :: rest) pos) u) : MWt X Wx (.BoolOp .Or (a :: b :: rest) pos) (tOr t u) := (pw_or ha hb).imp fun σ H Q h => by
  obtain ⟨φ, M, L, R, l, h⟩ := h
  refine ⟨φ, M, L, R, l, (Res.seq h).imp (fun v H1 ⟨φ1, M1, w, R1, r1, e1, t1, h1⟩ => ?_) fun _ _ _ z => z⟩
  obtain rfl : v = w := r1
  cases v with
  | true => rw [if_pos rfl] at h1 ⊢; exact Res.here h1 R1 rfl
  | false => rw [if_neg Bool.false_ne_true] at h1 ⊢; exact ⟨φ1, M1, L, R1, l.mono e1 t1, h1⟩
theorem mt_w {h : Expr} (q : MWt X Wx h t) : MT X Wx h t := PW.pt q
theorem mt_not (ha : MT X Wx a t) : MT X Wx (.UnaryOp .Not a pos) (tNot t) := (pt_not ha).imp fun σ H Q h => by
  obtain ⟨φ, M, L, R, l, h⟩ := h
  refine ⟨φ, M, L, R, l, (Res.seq h).imp (fun v H1 ⟨φ1, M1, w, R1, r1, e1, t1, h1⟩ => ?_) fun _ _ _ z => z⟩
  obtain rfl : v = w := r1
  exact Res.here h1 R1 rfl
theorem me_one {op} (h : ME X Wx a ma) : ME X Wx (.BoolOp op [a] pos) ma := pe_one h
theorem me_and {rest : List Expr} (ha : ME X Wx a ma) (hb : ME X Wx (.BoolOp .And (b :: rest) pos) mb) : ME X Wx (.BoolOp .And (a :: b :: rest) pos) (eAnd ma mb) := (pe_and ha hb).imp fun σ H Q h => by
  obtain ⟨φ, M, L, R, l, h⟩ := h
  refine ⟨φ, M, L, R, l, (Res.seq h).imp (fun v H1 ⟨φ1, M1, w, R1, r1, e1, t1, h1⟩ => ?_) fun _ _ _ z => z⟩
  cases hb : asBool w with
  | none => simp only [hb] at h1; exact h1.elim
  | some k =>
    simp only [hb] at h1
    refine ⟨k, asBool_VR r1 hb, ?_⟩
    cases k with
    | true => rw [if_pos rfl]; exact ⟨φ1, M1, L, R1, l.mono e1 t1, h1⟩
    | false => rw [if_neg Bool.false_ne_true]; exact Res.here h1 R1 (.d (.bl false))
theorem me_or {rest : List Expr} (ha : ME X Wx a ma) (hb : ME X Wx (.BoolOp .Or (b :: rest) pos) mb) : ME X Wx (.BoolOp .Or (a :: b :: rest) pos) (eOr ma mb) := (pe_or ha hb).imp fun σ H Q h => by
  obtain ⟨φ, M, L, R, l, h⟩ := h
  refine ⟨φ, M, L, R, l, (Res.seq h).imp (fun v H1 ⟨φ1, M1, w, R1, r1, e1, t1, h1⟩ => ?_) fun _ _ _ z => z⟩
  cases hb : asBool w with
  | none => simp only [hb] at h1; exact h1.elim
  | some k =>
    simp only [hb] at h1
    refine ⟨k, asBool_VR r1 hb, ?_⟩
    cases k with
    | true => rw [if_pos rfl]; exact Res.here h1 R1 (.d (.bl true))
    | false => rw [if_neg Bool.false_ne_true]; exact ⟨φ1, M1, L, R1, l.mono e1 t1, h1⟩
theorem me_not (ha : ME X Wx a ma) : ME X Wx (.UnaryOp .Not a pos) (eNot ma) := (pe_not ha).imp fun σ H Q h => by
  obtain ⟨φ, M, L, R, l, h⟩ := h
  refine ⟨φ, M, L, R, l, (Res.seq h).imp (fun v H1 ⟨φ1, M1, w, R1, r1, e1, t1, h1⟩ => ?_) fun _ _ _ z => z⟩
  cases hb : asBool w with
  | none => simp only [hb] at h1; exact h1.elim
  | some k => simp only [hb] at h1; exact ⟨k, asBool_VR r1 hb, Res.here h1 R1 (.d (.bl _))⟩
theorem me_if (hc : MT X Wx c t) (ha : ME X Wx a ma) (hb : ME X Wx b mb) : ME X Wx (.IfExp c a b pos) (eIf t ma mb) := (pe_ifExp hc ha hb).imp fun σ H Q h => by
  obtain ⟨φ, M, L, R, l, h⟩ := h
  refine ⟨φ, M, L, R, l, (Res.seq h).imp (fun v H1 ⟨φ1, M1, w, R1, r1, e1, t1, h1⟩ => ?_) fun _ _ _ z => z⟩
  obtain rfl : v = w := r1
  cases v with
  | true => rw [if_pos rfl] at h1 ⊢; exact ⟨φ1, M1, L, R1, l.mono e1 t1, h1⟩
  | false => rw [if_neg Bool.false_ne_true] at h1 ⊢; exact ⟨φ1, M1, L, R1, l.mono e1 t1, h1⟩
theorem tChain_of {f g : Op2} {σ : L2.St} {H : Hp} {Q : VK} (h : tM K mg Wx (eChain f g ma mb mc) σ H Q) : tChain (rel2 K mg f) (rel2 K mg g) (tM K mg Wx ma) (tM K mg Wx mb) (tM K mg Wx mc) σ H Q := by
  obtain ⟨φ, M, L, R, l, h⟩ := h
  refine ⟨φ, M, L, R, l, (Res.seq h).imp (fun v H1 ⟨φ1, M1, w, R1, r1, e1, t1, h1⟩ => ?_) fun _ _ _ z => z⟩
  refine ⟨φ1, M1, L, R1, l.mono e1 t1, (Res.seq h1).imp (fun v2 H2 ⟨φ2, M2, w2, R2, r2, e2, t2, h2⟩ => ?_) fun _ _ _ z => z⟩
  refine ⟨φ2, M2, w, w2, R2, r1.mono e2 t2, r2, (Res.seq h2).of0.imp (fun v3 H3 ⟨φ3, M3, w3, R3, r3, e3, t3, h3⟩ => ?_) fun _ _ _ z => z⟩
  cases hk : asBool w3 with
  | none => simp only [hk] at h3; exact h3.elim
  | some k =>
    simp only [hk] at h3
    refine ⟨k, asBool_VR r3 hk, ?_⟩
    cases k with
    | false => rw [if_neg Bool.false_ne_true]; exact Res.here h3 R3 (.d (.bl false))
    | true =>
      rw [if_pos rfl]
      refine ⟨φ3, M3, L, R3, l.mono (e1.trans (e2.trans e3)) (t1.trans (t2.trans t3)), (Res.seq h3).imp (fun v4 H4 ⟨φ4, M4, w4, R4, r4, e4, t4, h4⟩ => ?_) fun _ _ _ z => z⟩
      exact ⟨φ4, M4, w2, w4, R4, r2.mono (e3.trans e4) (t3.trans t4), r4, h4.of0⟩
theorem me_chain {op op' : CmpOp} {f g : Op2} (ho : OpR X (compareOp op) (rel2 X.K X.mg f)) (ho' : OpR X (compareOp op') (rel2 X.K X.mg g)) (ha : ME X Wx a ma) (hb : ME X Wx b mb) (hc : ME X Wx c mc)
    (hm : lastMarks [op, op'] [b, c] = false := by with_unfolding_all rfl) : ME X Wx (.Compare a [op, op'] [b, c] pos) (eChain f g ma mb mc) := (pe_chain ho ho' ha hb hc hm).imp fun σ H Q h => tChain_of h
end
end Mi
end

section
set_option maxHeartbeats 4000000
/-! MiR2: what is left behind a call, defs and their calls, what is walked, comprehensions, statements. -/
namespace Mi
open PySem PySem.Spec PyProof.Rows L2

section
variable {K : Fr} {mg : Mg} {H H' : Hp} {φ φ' : Phi} {M M' : Hh}
/-! ### what is left behind a call -/
mutual
theorem VR.und {n : Nat} (hn : φ.length ≤ n) : ∀ {v : V} {w : W}, VR K φ H v w → w.und n = true
  | _, _, .d _ => by simp
  | _, _, .ref h => by
    have := (List.getElem?_eq_some_iff.mp h).1
    simp; omega
  | _, _, .mix _ r => by
    unfold W.und
    exact VRs.unds hn r
theorem VRs.unds {n : Nat} (hn : φ.length ≤ n) : ∀ {vs : List V} {ws : List W}, VRs K φ H vs ws → W.unds n ws = true
  | _, _, .nil => rfl
  | _, _, .cons r s => by
    unfold W.unds
    rw [VR.und hn r, VRs.unds hn s]
    rfl
end
mutual
theorem VR.cut {n : Nat} : ∀ {v : V} {w : W}, VR K φ H v w → w.und n = true → VR K (φ.take n) H v w
  | _, _, .d r, _ => .d r
  | _, _, .ref (i := i) h, q => .ref (by
    have q' : i < n := by simpa using q
    rw [List.getElem?_take_of_lt q']; exact h)
  | _, _, .mix s r, q => .mix s (VRs.cut r (by unfold W.und at q; exact q))
theorem VRs.cut {n : Nat} : ∀ {vs : List V} {ws : List W}, VRs K φ H vs ws → W.unds n ws = true → VRs K (φ.take n) H vs ws
  | _, _, .nil, _ => .nil
  | _, _, .cons r s, q => by
    unfold W.unds at q
    obtain ⟨q1, q2⟩ := Bool.and_eq_true_iff.mp q
    exact .cons (VR.cut r q1) (VRs.cut s q2)
end
theorem unds_all {n : Nat} : ∀ {ws : List W}, ws.all (W.und n) = W.unds n ws
  | [] => rfl
  | w :: ws => by
    unfold W.unds
    rw [List.all_cons, unds_all]
theorem unds_snd {κ : Type} {n : Nat} : ∀ {ws : List (κ × W)}, (ws.all fun kv => kv.2.und n) = W.unds n (ws.map (·.2))
  | [] => rfl
  | w :: ws => by
    rw [List.map_cons]
    unfold W.unds
    rw [List.all_cons, unds_snd]
theorem OR.und {n : Nat} (hn : φ.length ≤ n) {a : Addr} {o : O} (h : OR K mg φ H a o) : o.und n = true := by
  cases o with
  | lst ws => obtain ⟨_, _, r⟩ := h; simp only [O.und]; rw [unds_all]; exact r.unds hn
  | dk kvs => obtain ⟨_, _, _, r⟩ := h; simp only [O.und]; rw [unds_snd]; exact r.unds hn
  | dt kvs => obtain ⟨_, _, _, r⟩ := h; simp only [O.und]; rw [unds_snd]; exact r.unds hn
  | ins c fs => obtain ⟨_, _, _, _, _, _, r⟩ := h; simp only [O.und]; rw [unds_snd]; exact r.unds hn
theorem OR.cut {n : Nat} {a : Addr} {o : O} (h : OR K mg φ H a o) (q : o.und n = true) : OR K mg (φ.take n) H a o := by
  cases o with
  | lst ws => obtain ⟨x, y, r⟩ := h; simp only [O.und] at q; rw [unds_all] at q; exact ⟨x, y, r.cut q⟩
  | dk kvs => obtain ⟨x, y, z, r⟩ := h; simp only [O.und] at q; rw [unds_snd] at q; exact ⟨x, y, z, r.cut q⟩
  | dt kvs => obtain ⟨x, y, z, r⟩ := h; simp only [O.und] at q; rw [unds_snd] at q; exact ⟨x, y, z, r.cut q⟩
  | ins c fs => obtain ⟨x, y, z, u, v, t, r⟩ := h; simp only [O.und] at q; rw [unds_snd] at q; exact ⟨x, y, z, u, v, t, r.cut q⟩
theorem Rel.cut (R : Rel K mg φ M H) (n : Nat) (q : (M.take n).all (O.und n) = true) : Rel K mg (φ.take n) (M.take n) H := by
  refine ⟨by simp [R.len], fun i j a h1 h2 => ?_, fun i a o h1 h2 => ?_⟩
  · rw [List.getElem?_take] at h1 h2
    split at h1
    · split at h2
      · exact R.nd i j a h1 h2
      · cases h2
    · cases h1
  · have hm : o ∈ M.take n := List.mem_of_getElem? h2
    have ho := List.all_eq_true.mp q o hm
    rw [List.getElem?_take] at h1 h2
    split at h1
    · rename_i hi
      rw [if_pos hi] at h2
      exact (R.ob i a o h1 h2).cut ho
    · cases h1
theorem Rel.all (R : Rel K mg φ M H) : M.all (O.und M.length) = true := by
  refine List.all_eq_true.mpr fun o ho => ?_
  obtain ⟨i, hi⟩ := List.mem_iff_getElem?.mp ho
  obtain ⟨a, _, q⟩ := R.at hi
  exact q.und (Nat.le_of_eq R.len)
theorem Ext.take (R : Rel K mg φ M H) (e : Ext φ φ') : Ext φ (φ'.take M.length) := fun i a h => by
  have hi : i < M.length := by rw [← R.len]; exact (List.getElem?_eq_some_iff.mp h).1
  rw [List.getElem?_take_of_lt hi]
  exact e i a h
theorem gc_rel (R : Rel K mg φ M H) (R' : Rel K mg φ' M' H') (e : Ext φ φ') {v : V} {w : W} (r : VR K φ' H' v w) : ∃ ψ, Rel K mg ψ (gc M w M') H' ∧ VR K ψ H' v w ∧ Ext φ ψ := by
  unfold gc
  split
  · rename_i c
    obtain ⟨hw, c⟩ := c
    refine ⟨φ'.take M.length, R'.cut _ ?_, r.cut hw, .take R e⟩
    rcases c with c | c
    · rw [c]; exact R.all
    · exact c.1
  · exact ⟨φ', R', r, e⟩
end

section
variable {X : Cx} {Wx : WX} {K : Fr} {mg : Mg} {e a b c : Expr} {es : List Expr} {m ma mb mc : EM} {pos : Pos}
theorem me_gc (h : ME X Wx e m) : ME X Wx e (eGc m) := h.imp fun σ H Q h => by
  obtain ⟨φ, M, L, R, l, h⟩ := h
  refine ⟨φ, M, L, R, l, ?_⟩
  unfold eGc at h
  cases hm : m L M with
  | bad => rw [hm] at h; exact h
  | ex x M' => rw [hm] at h; exact h
  | ok w M' =>
    rw [hm] at h
    intro φ' H' v R' r e t
    dsimp only [Mi.R.bind] at h
    split at h
    · rename_i c
      refine h (φ'.take M.length) H' v ?_ (r.cut c.1) (.take R e) t
      have := R'.cut M.length (by rw [c.2]; exact R.all)
      rw [c.2] at this
      exact this
    · exact h φ' H' v R' r e t

/-! ### a def's promise -/
def SPf (K : Fr) (mg : Mg) (F : Fn) : Sp := fun vs H Q E => ∃ φ M ws, Rel K mg φ M H ∧ VRs K φ H vs ws ∧ Res K mg (VR K) φ H (F ws M) Q E
/-- the judgement of statements -/
def ResS (K : Fr) (mg : Mg) (Wx : WX) (D : Ends) (φ : Phi) (H : Hp) (out : Out) : Prop := match out with
  | .nx L M' => ∀ φ' H' σ', Rel K mg φ' M' H' → LR K φ' H' σ' L → Ext φ φ' → TK K H H' → D.nx σ' H'
  | .rt w M' => ∀ φ' H' v, Rel K mg φ' M' H' → VR K φ' H' v w → Ext φ φ' → TK K H H' → D.rt v H'
  | .bk L M' => ∀ φ' H' σ', Rel K mg φ' M' H' → LR K φ' H' σ' L → Ext φ φ' → TK K H H' → D.bk σ' H'
  | .ct L M' => ∀ φ' H' σ', Rel K mg φ' M' H' → LR K φ' H' σ' L → Ext φ φ' → TK K H H' → D.ct σ' H'
  | .ex x L M' => ∀ φ' H' σ' cls d, Rel K mg φ' M' H' → LR K φ' H' σ' L → ER K mg H' cls d x → Ext φ φ' → TK K H H' → Wx cls d σ' H'
  | .bad => False
def tS (K : Fr) (mg : Mg) (Wx : WX) (m : SM) : TS := fun D σ H => ∃ φ M L, Rel K mg φ M H ∧ LR K φ H σ L ∧ ResS K mg Wx D φ H (m L M)
abbrev MS (X : Cx) (Wx : WX) (st : Stmt) (m : SM) : Prop := PS X st (tS X.K X.mg Wx m)
abbrev MSs (X : Cx) (Wx : WX) (st : List Stmt) (m : SM) : Prop := PSs X st (tS X.K X.mg Wx m)
theorem ResS.mono {D : Ends} {φ φ' : Phi} {H H' : Hp} {out : Out} (h : ResS K mg Wx D φ H out) (e : Ext φ φ') (t : TK K H H') : ResS K mg Wx D φ' H' out := by
  cases out with
  | nx L M' => exact fun φ2 H2 v R r e2 t2 => h φ2 H2 v R r (e.trans e2) (t.trans t2)
  | rt L M' => exact fun φ2 H2 v R r e2 t2 => h φ2 H2 v R r (e.trans e2) (t.trans t2)
  | bk L M' => exact fun φ2 H2 v R r e2 t2 => h φ2 H2 v R r (e.trans e2) (t.trans t2)
  | ct L M' => exact fun φ2 H2 v R r e2 t2 => h φ2 H2 v R r (e.trans e2) (t.trans t2)
  | ex x L M' => exact fun φ2 H2 s c d R r q e2 t2 => h φ2 H2 s c d R r q (e.trans e2) (t.trans t2)
  | bad => exact h
/-- an expression, then what a statement does with it -/
theorem Res.then {α β : Type} {rel : Phi → Hp → β → α → Prop} {D : Ends} {φ : Phi} {H : Hp} {σ : L2.St} {L : Loc} {out : R α} {f : α → Hh → Out} (l : LR K φ H σ L) (h : ResS K mg Wx D φ H (out.then L f)) :
    Res K mg rel φ H out (fun v H1 => ∃ φ1 M1 w, Rel K mg φ1 M1 H1 ∧ rel φ1 H1 v w ∧ Ext φ φ1 ∧ TK K H H1 ∧ ResS K mg Wx D φ1 H1 (f w M1)) (fun c d H' => Wx c d σ H') := by
  cases out with
  | ok w M' => exact fun φ2 H2 v R r e2 t2 => ⟨φ2, M', w, R, r, e2, t2, ResS.mono h e2 t2⟩
  | ex x M' => exact fun φ2 H2 c d R r e2 t2 => h φ2 H2 σ c d R (l.mono e2 t2) r e2 t2
  | bad => exact h
/-- a def that is never used -/
theorem fnOk_bad {P : Program} {w : World} {base : Heap} {CX : CXT} {k : Nat} {f : Addr} {fd : FuncData} {ps : List Str} : FnOk P w K mg base CX k f fd ps (SPf K mg fun _ _ => .bad) :=
  ⟨fun _ _ _ _ ⟨_, _, _, _, _, h⟩ => h.elim, fun _ _ _ _ _ _ _ _ _ _ _ _ _ ⟨_, _, _, _, _, h⟩ => h.elim⟩
theorem fnOk_fn {P : Program} {w : World} {base : Heap} {x qual : Str} {st : Stmt} {f : Addr} {fd : FuncData} {N ps : List Str} {k : Nat} {body : SM} (F : Fun K x qual st f fd) (S : FnScope N ps (defScope st))
    (hb : ∀ (cdv : Value) (A : Around) (outer : List Env) (s : Shared) (H : Hp) (E : XK), Room k (A.deeper (envOfC qual (defScope st) s.heap.objs.size f cdv)) →
      MSs (cxOf (L2.CX P w) P w K mg base N qual (defScope st) f cdv A outer s H E) (fun cls d _ H => E cls d H) (defBody st) body) :
    FnOk P w K mg base (L2.CX P w) (k + 1) f fd ps (SPf K mg (fn ps.length N.length body)) := by
  refine F.okX S (fun vs H Q E h => ?_) fun cdv A outer s H vs Q E hr h => ⟨_, hb cdv A outer s H E hr, ?_⟩
  · obtain ⟨φ, M, ws, R, r, h⟩ := h
    unfold fn at h
    split at h
    · rename_i hl; rw [r.length]; exact hl
    · exact h.elim
  · obtain ⟨φ, M, ws, R, r, h⟩ := h
    refine ⟨φ, M, _, R, LR.start N r, ?_⟩
    unfold fn at h
    split at h
    · cases hbd : body (ws.map some ++ List.replicate (N.length - ws.length) none) M with
      | nx L M' =>
        rw [hbd] at h
        intro φ' H' σ' R' _ e t
        obtain ⟨ψ, R2, r2, e2⟩ := gc_rel R R' e (.d .non)
        exact h ψ H' _ R2 r2 e2 t
      | rt w M' =>
        rw [hbd] at h
        intro φ' H' v R' r' e t
        obtain ⟨ψ, R2, r2, e2⟩ := gc_rel R R' e r'
        exact h ψ H' _ R2 r2 e2 t
      | bk L M' => rw [hbd] at h; exact h.elim
      | ct L M' => rw [hbd] at h; exact h.elim
      | ex x L M' =>
        rw [hbd] at h
        exact fun φ' H' σ' c d R' _ q e t => h φ' H' c d R' q e t
      | bad => rw [hbd] at h; exact h.elim
    · exact h.elim
/-- f(e, ..) -/
theorem me_call {k : Nat} {f : Addr} {fd : FuncData} {ps : List Str} {Fm : Fn} {x : Str} {mr : AM} {p : Pos} (F : FnOk X.prog X.w X.K X.mg X.base (L2.CX X.prog X.w) k f fd ps (SPf X.K X.mg Fm)) (hr : Room k X.A) (hg : Gl X x) (hm : X.mg x = some (.ref f)) (hk : PySem.W.keepIn X.K (.ref f) = true) (hb : Binds X.K fd ps [])
    (tk : Takes X Wx) (ha : MA X Wx (e :: es) mr) (hdb : (x == ("__debug__" : Str)) = false := by decide) (he : starEach (e :: es) X.env = (false, eval e X.env) :: starEach es X.env := by rfl) (hpl : (backTo pos (starEach es X.env)).any (·.1) = false := by rfl) :
    ME X Wx (.Call (.Name x p) (e :: es) [] pos) (eCall Fm mr) := (pe_callS F hr hg hm hk hb (fun σ => passAt tk σ) ha hdb he hpl).imp fun σ H Q h => by
  obtain ⟨φ, M, L, R, l, h⟩ := h
  refine ⟨φ, M, L, R, l, (Res.seq h).imp (fun v H1 ⟨φ1, M1, w, R1, r1, e1, t1, h1⟩ => ?_) fun _ _ _ z => z⟩
  exact ⟨φ1, M1, w, R1, r1, h1⟩

/-! ### what is walked -/
def SrcR (K : Fr) (φ : Phi) (H : Hp) (J : It) : Src → Prop
  | .tp ws => ∃ a vs, J = Itt K a ∧ H a = some (.tup vs) ∧ VRs K φ H vs ws
  | .ls i _ => ∃ a, J = Itl K a ∧ φ[i]? = some a
  | .rg lo n => J = Itr lo n
def tI (K : Fr) (mg : Mg) (Wx : WX) (m : IM) : TI := fun σ H Q => ∃ φ M L, Rel K mg φ M H ∧ LR K φ H σ L ∧ Res K mg (SrcR K) φ H (m L M) Q (fun c d H' => Wx c d σ H')
abbrev MI (X : Cx) (Wx : WX) (tg iter : Expr) (m : IM) : Prop := PI X tg iter (tI X.K X.mg Wx m)
theorem _root_.L2.PI.imp {tg iter : Expr} {t t' : TI} (h : PI X tg iter t) (i : ∀ σ H Q, t' σ H Q → t σ H Q) : PI X tg iter t' := ⟨fun pins s σ H Q I q => h.run pins s σ H Q I (i σ H Q q)⟩
theorem SrcR.mono {φ φ' : Phi} {H H' : Hp} {J : It} {s : Src} (h : SrcR K φ H J s) (e : Ext φ φ') (t : TK K H H') : SrcR K φ' H' J s := by
  cases s with
  | tp ws => obtain ⟨a, vs, j, q, r⟩ := h; exact ⟨a, vs, j, t.1 _ _ q, r.mono e t⟩
  | ls i ws => obtain ⟨a, j, q⟩ := h; exact ⟨a, j, e _ _ q⟩
  | rg lo n => exact h
theorem SrcR.stop {φ : Phi} {M : Hh} {H : Hp} {J : It} {s : Src} (R : Rel K mg φ M H) (h : SrcR K φ H J s) (ok : s.ok M) {i : Nat} (hi : s.items.length ≤ i) : J.stop i H := by
  cases s with
  | tp ws =>
    obtain ⟨a, vs, rfl, q, r⟩ := h
    exact ⟨vs, .of q, by rw [r.length]; exact hi⟩
  | ls j ws =>
    obtain ⟨a, rfl, q⟩ := h
    obtain ⟨vs, hv, r⟩ := R.ob' ok q
    exact ⟨vs, .of hv, by rw [r.length]; exact hi⟩
  | rg lo n =>
    cases h
    have : n ≤ i := by simpa [Src.items, rgItems] using hi
    exact this
theorem SrcR.step {φ : Phi} {M : Hh} {H : Hp} {J : It} {s : Src} (R : Rel K mg φ M H) (h : SrcR K φ H J s) (ok : s.ok M) {i : Nat} {w : W} (hi : s.items[i]? = some w) :
    J.go i H ∧ ∀ x H', J.yld i H x H' → H' = H ∧ VR K φ H x w := by
  cases s with
  | tp ws =>
    obtain ⟨a, vs, rfl, q, r⟩ := h
    obtain ⟨v, hv, rv⟩ := r.get' (show ws[i]? = some w from hi)
    exact ⟨⟨vs, v, .of q, hv⟩, fun x H' ⟨e, z⟩ => ⟨e, by
      have := z vs (.of q)
      rw [hv] at this; cases this
      exact rv⟩⟩
  | ls j ws =>
    obtain ⟨a, rfl, q⟩ := h
    obtain ⟨vs, hl, r⟩ := R.ob' ok q
    obtain ⟨v, hv, rv⟩ := r.get' (show ws[i]? = some w from hi)
    exact ⟨⟨vs, v, .of hl, hv⟩, fun x H' ⟨e, z⟩ => ⟨e, by
      have := z vs (.of hl)
      rw [hv] at this; cases this
      exact rv⟩⟩
  | rg lo n =>
    cases h
    have hi' : (rgItems lo n)[i]? = some w := hi
    unfold rgItems at hi'
    rw [List.getElem?_map] at hi'
    cases hr : (List.range n)[i]? with
    | none => rw [hr] at hi'; cases hi'
    | some j =>
      rw [hr] at hi'
      cases hi'
      obtain ⟨hl, he⟩ := List.getElem?_eq_some_iff.mp hr
      have hin : i < n := by simpa using hl
      have hj : j = i := by simpa using he.symm
      subst hj
      exact ⟨hin, fun x H' ⟨e, z⟩ => ⟨e, by rw [z]; exact .d (.int _)⟩⟩
/-- a list or a tuple, whichever comes -/
theorem pi_seq {tg l : Expr} {tl : TE} (hl : PE X l tl) : PI X tg l (fun σ H R => tl σ H fun x H1 => ∃ a, x = .ref a ∧ (((∃ xs, SqL X.K H1 a xs) ∧ R (Itl X.K a) H1) ∨ ((∃ xs, SqT X.K H1 a xs) ∧ R (Itt X.K a) H1))) := by
  refine ⟨fun pins s σ H Rr I hyp => thn (hl.run pins s σ H _ I hyp) fun val st1 ⟨x1, Ha, Ia, ra, a, ex, alt⟩ => ?_⟩
  subst ex
  cases ra
  have fresh : ∀ b ∈ [st1.heap.objs.size], FpOk X pins Ha b := fun b hb => by
    obtain rfl : b = st1.heap.objs.size := by simpa using hb
    exact Ia.fpOk (Nat.le_refl _) (Ia.hok.fresh (Nat.le_refl _))
  rcases alt with ⟨⟨xs, sq⟩, q⟩ | ⟨⟨xs, sq⟩, q⟩
  · obtain ⟨its, rv, pl, _⟩ := Ia.list sq
    refine wpAny_pyIter_list pl.isList ⟨_, _, _, _, Ha, rfl, Ia.kept (t' := st1.toks) (fun b o eb => Heap.get?_push_of_some _ eb), turn_list a _, ?_, fresh, q⟩
    exact ⟨_, Heap.get?_push_size _ rfl, rfl, rfl⟩
  · obtain ⟨its, rv, pl, _⟩ := Ia.tuple sq
    refine wpAny_pyIter_tuple (show st1.heap.IsTuple a its.toArray from pl) ⟨_, _, _, _, Ha, rfl, Ia.kept (t' := st1.toks) (fun b o eb => Heap.get?_push_of_some _ eb), turn_tuple a _, ?_, fresh, q⟩
    exact ⟨_, Heap.get?_push_size _ rfl, rfl, rfl⟩
theorem mi_seq {tg : Expr} (h : ME X Wx e m) : MI X Wx tg e (iSeq m) := (pi_seq h).imp fun σ H Q h => by
  obtain ⟨φ, M, L, R, l, h⟩ := h
  refine ⟨φ, M, L, R, l, (Res.seq h).imp (fun v H1 ⟨φ1, M1, w, R1, r1, e1, t1, h1⟩ => ?_) fun _ _ _ z => z⟩
  cases w with
  | ref i =>
    dsimp only at h1
    cases r1 with
    | ref hi =>
      split at h1
      · rename_i ws ho
        obtain ⟨vs, hv, rv⟩ := R1.ob' ho hi
        exact ⟨_, rfl, .inl ⟨⟨vs, .of hv⟩, Res.here h1 R1 ⟨_, rfl, hi⟩⟩⟩
      · exact h1.elim
  | d x =>
    dsimp only at h1
    cases hi : W.items (.d x) with
    | none => rw [hi] at h1; exact h1.elim
    | some ws =>
      rw [hi] at h1
      obtain ⟨a, vs, rfl, s, r⟩ := r1.items hi
      exact ⟨a, rfl, .inr ⟨⟨vs, .of s⟩, Res.here h1 R1 ⟨a, vs, rfl, s, r⟩⟩⟩
  | mix x =>
    dsimp only at h1
    cases hi : W.items (.mix x) with
    | none => rw [hi] at h1; exact h1.elim
    | some ws =>
      rw [hi] at h1
      obtain ⟨a, vs, rfl, s, r⟩ := r1.items hi
      exact ⟨a, rfl, .inr ⟨⟨vs, .of s⟩, Res.here h1 R1 ⟨a, vs, rfl, s, r⟩⟩⟩
theorem mi_range1 {tg : Expr} {p : Pos} (hg : Gl X "range") (hm : X.mg "range" = none) (ha : ME X Wx a ma) (h1 : starEach [a] X.env = (false, eval a X.env) :: starEach [] X.env := by rfl) (hs : starEach [a] X.env = [(false, eval a X.env)] := by rfl) :
    MI X Wx tg (.Call (.Name "range" p) [a] [] pos) (iRange1 ma) := (pi_range1 hg hm (ma_cons ha ma_nil h1) hs).imp fun σ H Q h => by
  obtain ⟨φ, M, L, R, l, h⟩ := h
  refine ⟨φ, M, L, R, l, ?_⟩
  unfold iRange1 at h
  cases hm' : ma L M with
  | bad => rw [hm'] at h; exact h.elim
  | ex x M' => rw [hm'] at h; simp only [aCons, hm', Mi.R.bind_ex]; exact h
  | ok w M' =>
    rw [hm', Mi.R.bind_ok] at h
    simp only [aCons, aNil, hm', Mi.R.bind_ok]
    split at h
    · rename_i n
      split at h
      · rename_i c
        intro φ' H' vs R' r e t
        cases r with
        | cons r rn =>
          cases rn
          cases r with
          | d r => cases r; exact ⟨n, rfl, by omega, by omega, h φ' H' _ R' rfl e t⟩
      · exact h.elim
    · exact h.elim
theorem mi_range2 {tg : Expr} {p : Pos} (hg : Gl X "range") (hm : X.mg "range" = none) (ha : ME X Wx a ma) (hb : ME X Wx b mb) (h1 : starEach [a, b] X.env = (false, eval a X.env) :: starEach [b] X.env := by rfl) (h2 : starEach [b] X.env = (false, eval b X.env) :: starEach [] X.env := by rfl)
    (hs : starEach [a, b] X.env = [(false, eval a X.env), (false, eval b X.env)] := by rfl) (hs2 : starEach [b] X.env = [(false, eval b X.env)] := by rfl) :
    MI X Wx tg (.Call (.Name "range" p) [a, b] [] pos) (iRange2 ma mb) := (pi_range2 hg hm (ma_cons ha (ma_cons hb ma_nil h2) h1) hs hs2).imp fun σ H Q h => by
  obtain ⟨φ, M, L, R, l, h⟩ := h
  refine ⟨φ, M, L, R, l, ?_⟩
  unfold iRange2 at h
  cases hm' : ma L M with
  | bad => rw [hm'] at h; exact h.elim
  | ex x M' => rw [hm'] at h; simp only [aCons, hm', Mi.R.bind_ex]; exact h
  | ok w M' =>
    rw [hm', Mi.R.bind_ok] at h
    cases hm2 : mb L M' with
    | bad => rw [hm2] at h; exact h.elim
    | ex x M2 => rw [hm2] at h; simp only [aCons, hm', hm2, Mi.R.bind_ex, Mi.R.bind_ok]; exact h
    | ok w2 M2 =>
      rw [hm2, Mi.R.bind_ok] at h
      simp only [aCons, aNil, hm', hm2, Mi.R.bind_ok]
      split at h
      · rename_i lo hi
        split at h
        · rename_i c
          intro φ' H' vs R' r e t
          cases r with
          | cons r rn =>
            cases rn with
            | cons r2 rn =>
              cases rn
              cases r with
              | d r => cases r with
                | int _ => cases r2 with
                  | d r2 => cases r2; exact ⟨lo, hi, rfl, ⟨by omega, by omega, by omega, by omega⟩, h φ' H' _ R' rfl e t⟩
        · exact h.elim
      · exact h.elim
end
end Mi
end

section
set_option maxHeartbeats 4000000
/-! MiR3: targets, comprehensions, statements. -/
namespace Mi
open PySem PySem.Spec PyProof.Rows L2

/-! ### targets -/
def tG (K : Fr) (mg : Mg) (g : Tg) : TG := fun v σ H Q => ∃ φ M L w L', Rel K mg φ M H ∧ LR K φ H σ L ∧ VR K φ H v w ∧ g.put w L = some L' ∧
  ∀ σ', LR K φ H σ' L' → σ'.length = σ.length → (∀ j : Nat, j ∉ g.ixs → σ'[j]? = σ[j]?) → Q σ' H
theorem _root_.L2.PG.imp {X : Cx} {e : Expr} {t t' : TG} (h : PG X e t) (i : ∀ v σ H Q, t' v σ H Q → t v σ H Q) : PG X e t' := ⟨fun pins s σ H v u Q I r q => h.run pins s σ H v u Q I r (i v σ H Q q)⟩
def gNames : List Nat → TGs
  | [] => gNil
  | i :: is => gCons (gName i) (gNames is)
section
variable {X : Cx} {Wx W2 : WX} {K : Fr} {mg : Mg} {e a b c : Expr} {es : List Expr} {m ma mb mc : EM} {pos : Pos}
theorem pgs_nil' : PGs X [] (gNames []) := pgs_nil
theorem pgs_cons' {i : Nat} {is : List Nat} (h1 : PG X e (gName i)) (h2 : PGs X es (gNames is)) (hs : (assignEach (e :: es) X.env).map (·.2) = assign e X.env :: (assignEach es X.env).map (·.2) := by rfl) : PGs X (e :: es) (gNames (i :: is)) := pgs_cons h1 h2 hs
theorem gNames_ok {φ : Phi} {H : Hp} {Q : L2.St → Hp → Prop} : ∀ {is : List Nat} {vs : List V} {ws : List W} {σ : L2.St} {L L' : Loc}, VRs K φ H vs ws → LR K φ H σ L → setAll is ws L = some L' →
    (∀ σ', LR K φ H σ' L' → σ'.length = σ.length → (∀ j : Nat, j ∉ is → σ'[j]? = σ[j]?) → Q σ' H) → gNames is vs σ H Q
  | [], _, _, σ, L, L', .nil, l, h, k => by
    cases h
    exact ⟨rfl, k σ l rfl fun _ _ => rfl⟩
  | i :: is, _, _, σ, L, L', .cons (v := v) (w := w) r rs, l, h, k => by
    refine ⟨_, _, rfl, gNames_ok rs (l.set (i := i) r) h fun σ' l' hl hj => k σ' l' (by rw [hl]; simp) fun j hji => ?_⟩
    rw [hj j (fun z => hji (List.mem_cons_of_mem _ z)), List.getElem?_set_ne (fun z => hji (by rw [z]; exact List.mem_cons_self))]
  | [], _, _, _, _, _, .cons _ _, _, h, _ => by cases h
  | _ :: _, _, _, _, _, _, .nil, _, h, _ => by cases h
theorem mg_nm {i : Nat} (h : PG X e (gName i)) : PG X e (tG K mg (.nm i)) := h.imp fun v σ H Q h => by
  obtain ⟨φ, M, L, w, L', R, l, r, hp, k⟩ := h
  cases hp
  exact k _ (l.set r) (by simp) fun j hj => List.getElem?_set_ne (fun z => hj (by simp [Tg.ixs, z]))
theorem mg_tup {is : List Nat} {k : Nat} (hc : X.calm = true) (h : PGs X es (gNames is)) (hn : (assignEach es X.env).length = is.length := by rfl) (hst : (assignEach es X.env).findIdx? (·.1) = none := by rfl) : PG X (.Tuple es k pos) (tG X.K mg (.tp is)) :=
  (pg_tup (n := is.length) hc h hn hst).imp fun v σ H Q h => by
    obtain ⟨φ, M, L, w, L', R, l, r, hp, k⟩ := h
    unfold Tg.put at hp
    dsimp only at hp
    split at hp
    · rename_i ws hi
      obtain ⟨a, vs, rfl, s, rs⟩ := r.items hi
      refine ⟨a, vs, rfl, .of s, ?_, gNames_ok rs l hp k⟩
      rw [rs.length]
      clear k rs s r
      have len : ∀ {is : List Nat} {ws : List W} {L L' : Loc}, setAll is ws L = some L' → ws.length = is.length := by
        intro is
        induction is with
        | nil => intro ws L L' h; cases ws with
          | nil => rfl
          | cons _ _ => cases h
        | cons i is ih => intro ws L L' h; cases ws with
          | nil => cases h
          | cons w ws => rw [List.length_cons, List.length_cons, ih h]
      exact len hp
    · cases hp

/-! ### comprehensions -/
abbrev W0 : WX := fun _ _ _ _ => False
theorem wipe_get {σ : L2.St} {j : Nat} : ∀ {vs : List Nat}, (L2.wipe σ vs)[j]? = if j ∈ vs then (if j < σ.length then some none else none) else σ[j]?
  | [] => by simp [L2.wipe]
  | v :: vs => by
    unfold L2.wipe
    rw [List.getElem?_set]
    by_cases hv : v = j
    · subst hv
      simp [L2.wipe_length]
    · rw [if_neg hv, wipe_get]
      have : (j ∈ v :: vs) ↔ j ∈ vs := by simp [Ne.symm hv]
      simp only [this]
theorem wipe_eq {σ σ' : L2.St} {vs is : List Nat} (hl : σ'.length = σ.length) (hj : ∀ j : Nat, j ∉ is → σ'[j]? = σ[j]?) (sub : ∀ j ∈ is, j ∈ vs) : L2.wipe σ' vs = L2.wipe σ vs := by
  refine List.ext_getElem? fun j => ?_
  rw [wipe_get, wipe_get, hl]
  split
  · rfl
  · rename_i h
    exact hj j fun z => h (sub j z)
theorem wipe_wipe {σ : L2.St} {vs : List Nat} : L2.wipe (L2.wipe σ vs) vs = L2.wipe σ vs := by
  refine List.ext_getElem? fun j => ?_
  simp only [wipe_get, L2.wipe_length]
  split <;> simp_all
theorem TK.lst {H : Hp} {p : Addr} {xs ys : List V} (h : H p = some (.lst xs)) : TK K H (upd H p (.lst ys)) := .write h (by intro _ e; cases e) (by intro _ _ e; cases e)
theorem Rel.lst {φ : Phi} {M : Hh} {H : Hp} (R : Rel K mg φ M H) {i : Nat} {p : Addr} {xs ys : List V} {ws : List W} (e : φ[i]? = some p) (h : H p = some (.lst xs)) (r : VRs K φ H ys ws) : Rel K mg φ (M.set i (.lst ws)) (upd H p (.lst ys)) :=
  R.write e h (by intro _ e; cases e) (by intro _ _ e; cases e) ⟨ys, upd_same, r.mono .refl (.lst h)⟩
theorem tLc_of {i : IM} {g : Tg} {t : TM} {vs : List Nat} (sub : ∀ j ∈ g.ixs, j ∈ vs) {σ : L2.St} {H : Hp} {Q : VK} (h : tM K mg Wx (eComp i vs g t m) σ H Q) : tLc (tI K mg Wx i) (tG K mg g) (tT K mg W0 t) (tM K mg W0 m) vs σ H Q := by
  obtain ⟨φ, M, L, R, l, h⟩ := h
  refine ⟨φ, M, L, R, l, (Res.seq h).imp (fun J H1 ⟨φ1, M1, s, R1, r1, e1, t1, h1⟩ => ?_) fun _ _ _ z => z⟩
  intro D hD
  have R2 : Rel K mg (φ1 ++ [D]) (M1 ++ [.lst []]) (upd H1 D (.lst [])) := R1.new hD ⟨[], upd_same, .nil⟩
  have hDn : (φ1 ++ [D])[M1.length]? = some D := by rw [← R1.len]; simp
  refine ⟨fun i k H' => k = s.items.length - i ∧ i ≤ s.items.length ∧ ∃ φ' M', Rel K mg φ' M' H' ∧ Ext (φ1 ++ [D]) φ' ∧ TK K (upd H1 D (.lst [])) H' ∧
    Res K mg (VR K) φ' H' (compL s.ok vs g (fun L h => noEx (t L h)) (fun L h => noEx (m L h)) M1.length L (s.items.drop i) M') Q (fun c d H' => Wx c d σ H'),
    ⟨_, rfl, Nat.zero_le _, _, _, R2, .refl, .refl, Res.mono h1 .app (.laid hD)⟩, ?_⟩
  rintro i k H' ⟨rfl, hi, φ', M', R', e', t', h'⟩
  have r' : SrcR K φ' H' J s := r1.mono (Ext.app.trans e') ((TK.laid hD).trans t')
  by_cases hlt : i < s.items.length
  · right
    have hw : s.items[i]? = some s.items[i] := by simp [hlt]
    rw [List.drop_eq_getElem_cons hlt] at h'
    generalize s.items[i] = w at h' hw
    unfold compL at h'
    split at h'
    · rename_i okh
      obtain ⟨go, yl⟩ := r'.step R' okh hw
      refine ⟨go, fun H2 => ∃ φ2 M2, Rel K mg φ2 M2 H2 ∧ Ext (φ1 ++ [D]) φ2 ∧ TK K (upd H1 D (.lst [])) H2 ∧
        Res K mg (VR K) φ2 H2 (compL s.ok vs g (fun L h => noEx (t L h)) (fun L h => noEx (m L h)) M1.length L (s.items.drop (i + 1)) M2) Q (fun c d H' => Wx c d σ H'), fun H2 z => ⟨_, by omega, rfl, hlt, z⟩, fun x H2 y => ?_⟩
      obtain ⟨rfl, rx⟩ := yl x H2 y
      split at h'
      · exact h'.elim
      · rename_i L1 hp
        have lw := ((l.mono (e1.trans (Ext.app.trans e')) (t1.trans ((TK.laid hD).trans t'))).wipe vs)
        refine ⟨φ', M', wipeL L vs, w, L1, R', lw, rx, hp, fun σ2 l2 hl2 hj2 => ⟨(wipe_eq hl2 hj2 sub).trans wipe_wipe, φ', M', L1, R', l2, ?_⟩⟩
        cases ht : t L1 M' with
        | bad => simp only [ht] at h'; exact h'.elim
        | ex x M3 => simp only [ht] at h'; exact h'.elim
        | ok bb M3 =>
          simp only [ht, noEx, Mi.R.bind_ok] at h'
          intro φ3 H3 b' R3 rb e3 t3
          obtain rfl : b' = bb := rb
          cases b' with
          | false =>
            rw [if_neg Bool.false_ne_true] at h' ⊢
            exact ⟨φ3, M3, R3, e'.trans e3, t'.trans t3, Res.mono h' e3 t3⟩
          | true =>
            rw [if_pos rfl] at h' ⊢
            refine ⟨φ3, M3, L1, R3, l2.mono e3 t3, ?_⟩
            cases he : m L1 M3 with
            | bad => simp only [he] at h'; exact h'.elim
            | ex x M4 => simp only [he] at h'; exact h'.elim
            | ok w4 M4 =>
              simp only [he, noEx, Mi.R.bind_ok] at h'
              intro φ4 H4 v R4 rv e4 t4
              have hD4 : φ4[M1.length]? = some D := e4 _ _ (e3 _ _ (e' _ _ hDn))
              split at h'
              · rename_i acc hacc
                obtain ⟨us, hv, rus⟩ := R4.ob' hacc hD4
                split at h'
                · rename_i hz
                  refine ⟨us, hv, by rw [rus.length]; exact hz, ?_⟩
                  have R5 := R4.lst hD4 hv (rus.append (.cons rv .nil))
                  have t5 : TK K H4 (upd H4 D (.lst (us ++ [v]))) := .lst hv
                  exact ⟨φ4, _, R5, e'.trans (e3.trans e4), t'.trans (t3.trans (t4.trans t5)), Res.mono h' (e3.trans e4) (t3.trans (t4.trans t5))⟩
                · exact h'.elim
              · exact h'.elim
    · exact h'.elim
  · left
    have hie : i = s.items.length := by omega
    rw [List.drop_eq_nil_of_le (by omega)] at h'
    unfold compL at h'
    split at h'
    · rename_i okh
      exact ⟨r'.stop R' okh (by omega), Res.here h' R' (.ref (e' _ _ hDn))⟩
    · exact h'.elim
theorem _root_.L2.PTs.imp {es : List Expr} {t t' : TT} (h : PTs X es t) (i : ∀ σ H Q, t' σ H Q → t σ H Q) : PTs X es t' := ⟨fun pins s σ H Q I q => h.run pins s σ H Q I (i σ H Q q)⟩
theorem mts_nil : PTs X [] (tT K mg W2 tYes) := pts_nil.imp fun σ H Q h => by
  obtain ⟨φ, M, L, R, l, h⟩ := h
  exact Res.here h R rfl
theorem mts_one {t : TM} (h : MT X W2 c t) : PTs X [c] (tT X.K X.mg W2 t) := pts_one h
theorem me_comp {elt tg iter : Expr} {ifs : List Expr} {scope : Scope} {own : List (Str × Nat)} {i : IM} {g : Tg} {t : TM} (hc : X.calm = true) (hN : X.N.Nodup) (hi : MI X Wx tg iter i) (ok : BlkOk X.N X.env.scope scope own)
    (hg : ∀ (s : Shared) (H : Hp) (C : Addr) (cl : List (Str × Addr)) (fp : List Addr), PG (X.blk s H scope (compEnvC scope cl C X.env) fp) tg (tG X.K X.mg g)) (ht : ∀ (s : Shared) (H : Hp) (C : Addr) (cl : List (Str × Addr)) (fp : List Addr), PTs (X.blk s H scope (compEnvC scope cl C X.env) fp) ifs (tT X.K X.mg W0 t))
    (he : ∀ (s : Shared) (H : Hp) (C : Addr) (cl : List (Str × Addr)) (fp : List Addr), PE (X.blk s H scope (compEnvC scope cl C X.env) fp) elt (tM X.K X.mg W0 m)) (sub : ∀ j ∈ g.ixs, j ∈ own.map (·.2) := by decide) (hs : ∀ x, foldedSetIterable iter X.env x = pure x := by intro _; rfl) :
    ME X Wx (.ListComp elt [⟨tg, iter, ifs, 0⟩] scope pos) (eComp i (own.map (·.2)) g t m) := (pe_lc hc hN hi ok hg ht he hs).imp fun σ H Q h => tLc_of sub h

/-! ### statements -/
theorem ms_pass : MS X Wx (.Pass pos) sNil := ps_pass.imp fun D σ H h => by
  obtain ⟨φ, M, L, R, l, h⟩ := h
  exact h φ H σ R l .refl .refl
theorem ms_break : MS X Wx (.Break pos) sBreak := ps_break.imp fun D σ H h => by
  obtain ⟨φ, M, L, R, l, h⟩ := h
  exact h φ H σ R l .refl .refl
theorem ms_cont : MS X Wx (.Continue pos) sCont := ps_continue.imp fun D σ H h => by
  obtain ⟨φ, M, L, R, l, h⟩ := h
  exact h φ H σ R l .refl .refl
theorem mss_nil : MSs X Wx [] sNil := pss_nil.imp fun D σ H h => by
  obtain ⟨φ, M, L, R, l, h⟩ := h
  exact h φ H σ R l .refl .refl
theorem mss_cons {st : Stmt} {rest : List Stmt} {a b : SM} (h1 : MS X Wx st a) (h2 : MSs X Wx rest b) : MSs X Wx (st :: rest) (sCons a b) := (pss_cons h1 h2).imp fun D σ H h => by
  obtain ⟨φ, M, L, R, l, h⟩ := h
  refine ⟨φ, M, L, R, l, ?_⟩
  unfold sCons at h
  cases ha : a L M with
  | nx L2 M2 => rw [ha] at h; exact fun φ' H' σ' R' l' e t => ⟨φ', M2, L2, R', l', ResS.mono h e t⟩
  | rt w M2 => rw [ha] at h; exact h
  | bk L2 M2 => rw [ha] at h; exact h
  | ct L2 M2 => rw [ha] at h; exact h
  | ex x L2 M2 => rw [ha] at h; exact h
  | bad => rw [ha] at h; exact h
theorem ms_expr (he : ME X Wx e m) (hs : swapsWith e none pos.line X.env = pure false := by rfl) : MS X Wx (.Expr e pos) (sExpr m) := (ps_expr he hs).imp fun D σ H h => by
  obtain ⟨φ, M, L, R, l, h⟩ := h
  exact ⟨φ, M, L, R, l, (Res.then l h).imp (fun v H1 ⟨φ1, M1, w, R1, r1, e1, t1, h1⟩ => h1 φ1 H1 σ R1 (l.mono e1 t1) .refl .refl) fun _ _ _ z => z⟩
theorem ms_ret (he : ME X Wx e m) : MS X Wx (.Return (some e) pos) (sRet m) := (ps_ret he).imp fun D σ H h => by
  obtain ⟨φ, M, L, R, l, h⟩ := h
  exact ⟨φ, M, L, R, l, (Res.then l h).imp (fun v H1 ⟨φ1, M1, w, R1, r1, e1, t1, h1⟩ => h1 φ1 H1 v R1 r1 .refl .refl) fun _ _ _ z => z⟩
theorem ms_retN : MS X Wx (.Return none pos) sRetN := ps_retN.imp fun D σ H h => by
  obtain ⟨φ, M, L, R, l, h⟩ := h
  exact h φ H _ R (.d .non) .refl .refl
theorem ms_if {t : TM} {x y : List Stmt} {sa sb : SM} (hc : MT X Wx c t) (ha : MSs X Wx x sa) (hb : MSs X Wx y sb) : MS X Wx (.If c x y pos) (sIf t sa sb) := (ps_if hc ha hb).imp fun D σ H h => by
  obtain ⟨φ, M, L, R, l, h⟩ := h
  refine ⟨φ, M, L, R, l, (Res.then (rel := relB) l h).imp (fun v H1 ⟨φ1, M1, w, R1, r1, e1, t1, h1⟩ => ?_) fun _ _ _ z => z⟩
  obtain rfl : v = w := r1
  cases v with
  | true => rw [if_pos rfl] at h1 ⊢; exact ⟨φ1, M1, L, R1, l.mono e1 t1, h1⟩
  | false => rw [if_neg Bool.false_ne_true] at h1 ⊢; exact ⟨φ1, M1, L, R1, l.mono e1 t1, h1⟩
theorem tAsg_of {g : Tg} {D : Ends} {σ : L2.St} {H : Hp} (h : tS K mg Wx (sAsg g m) D σ H) : tAsg (tM K mg Wx m) (tG K mg g) D σ H := by
  obtain ⟨φ, M, L, R, l, h⟩ := h
  refine ⟨φ, M, L, R, l, (Res.then l h).imp (fun v H1 ⟨φ1, M1, w, R1, r1, e1, t1, h1⟩ => ?_) fun _ _ _ z => z⟩
  cases hp : g.put w L with
  | none => rw [hp] at h1; exact h1.elim
  | some L' =>
    rw [hp] at h1
    exact ⟨φ1, M1, L, w, L', R1, l.mono e1 t1, r1, hp, fun σ' l' _ _ => h1 φ1 H1 σ' R1 l' .refl .refl⟩
theorem tAsg_nm {i : Nat} {D : Ends} {σ : L2.St} {H : Hp} {te : TE} (h : tS K mg Wx (sAsg (.nm i) m) D σ H) (hte : ∀ σ H Q, tM K mg Wx m σ H Q → te σ H Q) : tAsg te (gName i) D σ H := by
  obtain ⟨φ, M, L, R, l, h⟩ := h
  refine hte σ H _ ⟨φ, M, L, R, l, (Res.then l h).imp (fun v H1 ⟨φ1, M1, w, R1, r1, e1, t1, h1⟩ => ?_) fun _ _ _ z => z⟩
  exact h1 φ1 H1 _ R1 ((l.mono e1 t1).set r1) .refl .refl
/-- name = e -/
theorem ms_set (i : Nat) {x : Str} {pos' : Pos} (hN : X.N.Nodup) (he : ME X Wx e m) (hi : X.N[i]? = some x := by rfl) (hx : L2.Loc X.env.scope x := by first | exact Or.inl rfl | exact Or.inr rfl) (hs : swapsWith e (some (.Name x pos')) pos.line X.env = pure false := by rfl) (hf : X.fn x = true ∨ X.env.scope.names.lookup x = some .local := by first | exact .inl rfl | exact .inr rfl) :
    MS X Wx (.Assign [.Name x pos'] e pos) (sAsg (.nm i) m) := (ps_set hN hi hx he hs hf).imp fun D σ H h => tAsg_nm h fun _ _ _ z => z
/-- name = [..] -/
theorem ms_setC (iy : Nat) {y : Str} {py : Pos} {elt tg iter : Expr} {ifs : List Expr} {scope : Scope} {own : List (Str × Nat)} {i : IM} {g : Tg} {t : TM} {spos : Pos} (hc : X.calm = true) (hN : X.N.Nodup) (hi : MI X Wx tg iter i) (ok : BlkOk X.N X.env.scope scope own)
    (hg : ∀ (s : Shared) (H : Hp) (C : Addr) (cl : List (Str × Addr)) (fp : List Addr), PG (X.blk s H scope (compEnvC scope cl C X.env) fp) tg (tG X.K X.mg g)) (ht : ∀ (s : Shared) (H : Hp) (C : Addr) (cl : List (Str × Addr)) (fp : List Addr), PTs (X.blk s H scope (compEnvC scope cl C X.env) fp) ifs (tT X.K X.mg W0 t))
    (he : ∀ (s : Shared) (H : Hp) (C : Addr) (cl : List (Str × Addr)) (fp : List Addr), PE (X.blk s H scope (compEnvC scope cl C X.env) fp) elt (tM X.K X.mg W0 m)) (hy : X.N[iy]? = some y := by rfl) (hyl : X.env.scope.names.lookup y = some .local := by rfl)
    (hsw : swapsWith (.ListComp elt [⟨tg, iter, ifs, 0⟩] scope pos) (some (.Name y py)) spos.line X.env = pure true := by exact sw_true rfl rfl rfl (by decide +kernel)) (sub : ∀ j ∈ g.ixs, j ∈ own.map (·.2) := by decide) (hs : ∀ x, foldedSetIterable iter X.env x = pure x := by intro _; rfl) :
    MS X Wx (.Assign [.Name y py] (.ListComp elt [⟨tg, iter, ifs, 0⟩] scope pos) spos) (sAsg (.nm iy) (eComp i (own.map (·.2)) g t m)) := (ps_setLc hc hN hy hyl hsw hi ok hg ht he hs).imp fun D σ H h => tAsg_nm h fun _ _ _ z => tLc_of sub z
/-- target = e -/
theorem ms_asg {tg : Expr} {g : Tg} (he : ME X Wx e m) (hg : PG X tg (tG X.K X.mg g)) (hs : swapsWithSole [tg] e pos.line X.env = pure false := by rfl) (hw : swappedStores [tg] e X.env = pure none := by rfl)
    (h1 : (assignEach [tg] X.env).map (·.2) = [assign tg X.env] := by rfl) : MS X Wx (.Assign [tg] e pos) (sAsg g m) := (ps_asg he hg hs hw h1).imp fun D σ H h => tAsg_of h
/-- o[i] = e -/
def relSet (K : Fr) (mg : Mg) (f : W → W → W → Hh → Option Hh) : TSet := fun o i v H Q => ∃ φ M wo wi wv M', Rel K mg φ M H ∧ VR K φ H o wo ∧ VR K φ H i wi ∧ VR K φ H v wv ∧ f wo wi wv M = some M' ∧ ∀ φ' H', Rel K mg φ' M' H' → Ext φ φ' → TK K H H' → Q H'
theorem ms_sub {o i : Expr} {mo mi mv : EM} {f : W → W → W → Hh → Option Hh} {pos' : Pos} (hv : ME X Wx e mv) (ho : ME X Wx o mo) (hi : ME X Wx i mi) (hf : PSet X (relSet X.K X.mg f)) (hs : swapsWithSole [.Subscript o i pos'] e pos.line X.env = pure false := by rfl) (hw : swappedStores [.Subscript o i pos'] e X.env = pure none := by rfl)
    (h1 : (assignEach [.Subscript o i pos'] X.env).map (·.2) = [assign (.Subscript o i pos') X.env] := by rfl)
    (ha : ∀ v, assign (.Subscript o i pos') X.env v = (do
      let ov ← holding [v] (eval o X.env)
      let iv ← holding [v, ov] (eval i X.env)
      standAt pos'
      holding [v, ov, iv] (setItem ov iv v)
      release [v, ov, iv] []) := by intro _; rfl) : MS X Wx (.Assign [.Subscript o i pos'] e pos) (sSet f mo mi mv) := (ps_asg hv (pg_sub ho hi hf ha) hs hw h1).imp fun D σ H h => by
  obtain ⟨φ, M, L, R, l, h⟩ := h
  refine ⟨φ, M, L, R, l, (Res.then l h).imp (fun v H1 ⟨φ1, M1, w, R1, r1, e1, t1, h1⟩ => ?_) fun _ _ _ z => z⟩
  have l1 := l.mono e1 t1
  refine ⟨φ1, M1, L, R1, l1, (Res.then l1 h1).imp (fun v2 H2 ⟨φ2, M2, w2, R2, r2, e2, t2, h2⟩ => ?_) fun _ _ _ z => z⟩
  have l2 := l1.mono e2 t2
  refine ⟨φ2, M2, L, R2, l2, (Res.then l2 h2).imp (fun v3 H3 ⟨φ3, M3, w3, R3, r3, e3, t3, h3⟩ => ?_) fun _ _ _ z => z⟩
  cases hf' : f w2 w3 w M3 with
  | none => rw [hf'] at h3; exact h3.elim
  | some M4 =>
    rw [hf'] at h3
    exact ⟨φ3, M3, w2, w3, w, M4, R3, r2.mono e3 t3, r3, r1.mono (e2.trans e3) (t2.trans t3), hf', fun φ4 H4 R4 e4 t4 => h3 φ4 H4 σ R4 ((l2.mono e3 t3).mono e4 t4) e4 t4⟩
theorem ms_for {tg iter : Expr} {body : List Stmt} {i : IM} {g : Tg} {sb : SM} (hp : PassesOwn (model X.prog X.w) X.A X.env X.xe) (hc : X.calm = true) (hi : MI X Wx tg iter i) (hg : PG X tg (tG X.K X.mg g)) (hb : MSs X Wx body sb)
    (hs : ∀ x, foldedSetIterable iter X.env x = pure x := by intro _; rfl) : MS X Wx (.For tg iter body [] pos) (sFor i g sb) := (ps_for hp hc hi hg hb hs).imp fun D σ H h => by
  obtain ⟨φ, M, L, R, l, h⟩ := h
  refine ⟨φ, M, L, R, l, (Res.then (rel := SrcR X.K) l h).imp (fun J H1 ⟨φ1, M1, s, R1, r1, e1, t1, h1⟩ => ?_) fun _ _ _ z => z⟩
  refine ⟨fun i k σ' H' => k = s.items.length - i ∧ i ≤ s.items.length ∧ ∃ φ' M' L', Rel X.K X.mg φ' M' H' ∧ LR X.K φ' H' σ' L' ∧ Ext φ1 φ' ∧ TK X.K H1 H' ∧ ResS X.K X.mg Wx D φ' H' (forL s.ok g sb (s.items.drop i) L' M'),
    ⟨_, rfl, Nat.zero_le _, φ1, M1, L, R1, l.mono e1 t1, .refl, .refl, h1⟩, ?_⟩
  rintro i k σ' H' ⟨rfl, hi, φ', M', L', R', l', e', t', h'⟩
  have r' : SrcR X.K φ' H' J s := r1.mono e' t'
  by_cases hlt : i < s.items.length
  · right
    have hw : s.items[i]? = some s.items[i] := by simp [hlt]
    rw [List.drop_eq_getElem_cons hlt] at h'
    generalize s.items[i] = w at h' hw
    unfold forL at h'
    split at h'
    · rename_i okh
      obtain ⟨go, yl⟩ := r'.step R' okh hw
      refine ⟨go, fun σ2 H2 => ∃ φ2 M2 L2, Rel X.K X.mg φ2 M2 H2 ∧ LR X.K φ2 H2 σ2 L2 ∧ Ext φ1 φ2 ∧ TK X.K H1 H2 ∧ ResS X.K X.mg Wx D φ2 H2 (forL s.ok g sb (s.items.drop (i + 1)) L2 M2), fun σ2 H2 z => ⟨_, by omega, rfl, hlt, z⟩, fun x H2 y => ?_⟩
      obtain ⟨rfl, rx⟩ := yl x H2 y
      split at h'
      · exact h'.elim
      · rename_i L1 hp
        refine ⟨φ', M', L', w, L1, R', l', rx, hp, fun σ2 l2 _ _ => ⟨φ', M', L1, R', l2, ?_⟩⟩
        cases hb' : sb L1 M' with
        | nx L2 M2 => simp only [hb'] at h'; exact fun φ2 H2 σ2 R2 l2 e2 t2 => ⟨φ2, M2, L2, R2, l2, e'.trans e2, t'.trans t2, ResS.mono h' e2 t2⟩
        | ct L2 M2 => simp only [hb'] at h'; exact fun φ2 H2 σ2 R2 l2 e2 t2 => ⟨φ2, M2, L2, R2, l2, e'.trans e2, t'.trans t2, ResS.mono h' e2 t2⟩
        | bk L2 M2 => simp only [hb'] at h'; exact h'
        | rt w2 M2 => simp only [hb'] at h'; exact h'
        | ex x2 L2 M2 => simp only [hb'] at h'; exact h'
        | bad => simp only [hb'] at h'; exact h'
    · exact h'.elim
  · left
    rw [List.drop_eq_nil_of_le (by omega)] at h'
    unfold forL at h'
    split at h'
    · rename_i okh
      exact ⟨r'.stop R' okh (by omega), h' φ' H' σ' R' l' .refl .refl⟩
    · exact h'.elim
theorem ms_while {t : TM} {body : List Stmt} {sb : SM} (n : Nat) (hp : PassesOwn (model X.prog X.w) X.A X.env X.xe) (hc : MT X Wx c t) (hb : MSs X Wx body sb) : MS X Wx (.While c body [] pos) (sWhile n t sb) := (ps_while hp hc hb).imp fun D σ H h => by
  obtain ⟨φ, M, L, R, l, h⟩ := h
  refine ⟨fun k σ' H' => ∃ φ' M' L', Rel X.K X.mg φ' M' H' ∧ LR X.K φ' H' σ' L' ∧ ResS X.K X.mg Wx D φ' H' (whileL t sb k L' M'), ⟨n, φ, M, L, R, l, h⟩, ?_⟩
  rintro k σ' H' ⟨φ', M', L', R', l', h'⟩
  cases k with
  | zero => exact h'.elim
  | succ k =>
    unfold whileL at h'
    refine ⟨φ', M', L', R', l', (Res.then (rel := relB) l' h').imp (fun v H1 ⟨φ1, M1, w, R1, r1, e1, t1, h1⟩ => ?_) fun _ _ _ z => z⟩
    obtain rfl : v = w := r1
    cases v with
    | false =>
      rw [if_neg Bool.false_ne_true] at h1 ⊢
      exact h1 φ1 H1 σ' R1 (l'.mono e1 t1) .refl .refl
    | true =>
      rw [if_pos rfl] at h1 ⊢
      refine ⟨fun σ2 H2 => ∃ φ2 M2 L2, Rel X.K X.mg φ2 M2 H2 ∧ LR X.K φ2 H2 σ2 L2 ∧ ResS X.K X.mg Wx D φ2 H2 (whileL t sb k L2 M2), fun σ2 H2 z => ⟨k, Nat.lt_succ_self k, z⟩, φ1, M1, L', R1, l'.mono e1 t1, ?_⟩
      cases hb' : sb L' M1 with
      | nx L2 M2 => simp only [hb'] at h1; exact fun φ2 H2 σ2 R2 l2 e2 t2 => ⟨φ2, M2, L2, R2, l2, ResS.mono h1 e2 t2⟩
      | ct L2 M2 => simp only [hb'] at h1; exact fun φ2 H2 σ2 R2 l2 e2 t2 => ⟨φ2, M2, L2, R2, l2, ResS.mono h1 e2 t2⟩
      | bk L2 M2 => simp only [hb'] at h1; exact h1
      | rt w2 M2 => simp only [hb'] at h1; exact h1
      | ex x2 L2 M2 => simp only [hb'] at h1; exact h1
      | bad => simp only [hb'] at h1; exact h1
/-! ### what is left behind a block -/
theorem LR.forget {φ : Phi} {H : Hp} {σ : L2.St} {L : Loc} (h : LR K φ H σ L) : ∀ vs : List Nat, LR K φ H σ (Mi.forget L vs)
  | [] => h
  | v :: vs => by
    unfold Mi.forget
    have ih := LR.forget h vs
    refine ⟨by simp [ih.1], fun j w q => ?_⟩
    by_cases hj : v = j
    · subst hj
      by_cases hi : v < (Mi.forget L vs).length
      · rw [List.getElem?_set_self hi] at q; cases q
      · rw [List.getElem?_eq_none (by simpa using hi)] at q; cases q
    · rw [List.getElem?_set_ne hj] at q
      exact ih.2 j w q
theorem LR.cut {φ : Phi} {H : Hp} {σ : L2.St} {L : Loc} {n : Nat} (h : LR K φ H σ L) (q : locUnd n L = true) : LR K (φ.take n) H σ L := by
  refine ⟨h.1, fun i w e => ?_⟩
  obtain ⟨v, a, b⟩ := h.2 i w e
  have := List.all_eq_true.mp q (some w) (List.mem_of_getElem? e)
  exact ⟨v, a, b.cut this⟩
theorem gcS_rel {φ φ' : Phi} {M M' : Hh} {H H' : Hp} {σ : L2.St} {L : Loc} (R : Rel K mg φ M H) (R' : Rel K mg φ' M' H') (e : Ext φ φ') (l : LR K φ' H' σ L) : ∃ ψ, Rel K mg ψ (gcS M L M') H' ∧ LR K ψ H' σ L ∧ Ext φ ψ := by
  unfold gcS
  split
  · rename_i c
    obtain ⟨hw, c⟩ := c
    refine ⟨φ'.take M.length, R'.cut _ ?_, l.cut hw, .take R e⟩
    rcases c with c | c
    · rw [c]; exact R.all
    · exact c.1
  · exact ⟨φ', R', l, e⟩
theorem mss_scope {st : List Stmt} {sb : SM} (dead : List Nat) (h : MSs X Wx st sb) : MSs X Wx st (sScope dead sb) := h.imp fun D σ H h => by
  obtain ⟨φ, M, L, R, l, h⟩ := h
  refine ⟨φ, M, L, R, l, ?_⟩
  unfold sScope at h
  cases hb : sb L M with
  | nx L2 M2 =>
    rw [hb] at h
    intro φ' H' σ' R' l' e t
    obtain ⟨ψ, R2, l2, e2⟩ := gcS_rel R R' e (l'.forget dead)
    exact h ψ H' σ' R2 l2 e2 t
  | ct L2 M2 =>
    rw [hb] at h
    intro φ' H' σ' R' l' e t
    obtain ⟨ψ, R2, l2, e2⟩ := gcS_rel R R' e (l'.forget dead)
    exact h ψ H' σ' R2 l2 e2 t
  | rt w M2 => rw [hb] at h; exact h
  | bk L2 M2 => rw [hb] at h; exact h
  | ex x L2 M2 => rw [hb] at h; exact h
  | bad => rw [hb] at h; exact h
theorem mt_gc {t : TM} (h : MT X Wx e t) : MT X Wx e (tGc t) := h.imp fun σ H Q h => by
  obtain ⟨φ, M, L, R, l, h⟩ := h
  refine ⟨φ, M, L, R, l, ?_⟩
  unfold tGc at h
  cases hm : t L M with
  | bad => rw [hm] at h; exact h
  | ex x M' => rw [hm] at h; exact h
  | ok w M' =>
    rw [hm] at h
    intro φ' H' v R' r e t
    dsimp only [Mi.R.bind] at h
    split at h
    · rename_i c
      refine h (φ'.take M.length) H' v ?_ r (.take R e) t
      have := R'.cut M.length (by rw [c]; exact R.all)
      rw [c] at this
      exact this
    · exact h φ' H' v R' r e t
end
end Mi
end

section
/-! MiO: operations by values. -/
namespace Mi
open PySem (PyData Str)

/-! ### data of a value -/
def dataW (M : Hh) : Nat → W → Option PyData
  | _, .d x => some x
  | n + 1, .ref a => match M[a]? with
    | some (.lst ws) => (ws.mapM (dataW M n)).map .list
    | _ => none
  | n + 1, .mix ws => (ws.mapM (dataW M n)).map .tuple
  | 0, _ => none
abbrev dataDeep : Nat := 5
abbrev roomDeep : Nat := 62
@[simp] theorem dataW_d (M : Hh) (n : Nat) (x : PyData) : dataW M n (.d x) = some x := by cases n <;> rfl
@[simp] theorem mapM_dataW_d (M : Hh) (n : Nat) : ∀ xs : List PyData, (xs.map W.d).mapM (dataW M n) = some xs
  | [] => rfl
  | x :: xs => by simp [List.mapM_cons, mapM_dataW_d M n xs]

/-! ### numbers -/
def opAdd : Op2 := fun a b M => match a, b with
  | .d (.int i), .d (.int j) => some (.int (i + j), M)
  | .d (.str x), .d (.str y) => if x.length + y.length ≤ sizeMax then some (.str (x ++ y), M) else none
  | .ref p, .ref q => (match M[p]?, M[q]? with
    | some (.lst xs), some (.lst ys) => if xs.length + ys.length ≤ sizeMax then some (.ref M.length, M ++ [.lst (xs ++ ys)]) else none
    | _, _ => none)
  | a, b => (match a.items, b.items with
    | some xs, some ys => if xs.length + ys.length ≤ sizeMax then some (mkTup (xs ++ ys), M) else none
    | _, _ => none)
def opSub : Op2 := fun a b M => match a, b with
  | .d (.int i), .d (.int j) => some (.int (i - j), M)
  | _, _ => none
def opMul : Op2 := fun a b M => match a, b with
  | .d (.int i), .d (.int j) => if (-18446744073709551616 < i ∧ i < 18446744073709551616) ∨ (-18446744073709551616 < j ∧ j < 18446744073709551616) then some (.int (i * j), M) else none
  | .ref p, .d (.int k) => (match M[p]? with
    | some (.lst xs) => if (-9223372036854775808 ≤ k ∧ k < 9223372036854775808) ∧ xs.length * k.toNat ≤ sizeMax then some (.ref M.length, M ++ [.lst (List.replicate k.toNat xs).flatten]) else none
    | _ => none)
  | _, _ => none
def opFloorDiv : Op2 := fun a b M => match a, b with
  | .d (.int i), .d (.int j) => if 0 < j ∧ j.natAbs.log2 < 9000 then some (.int (i / j), M) else none
  | _, _ => none
def opMod : Op2 := fun a b M => match a, b with
  | .d (.int i), .d (.int j) => if 0 < j then some (.int (i % j), M) else none
  | _, _ => none
def opPow : Op2 := fun a b M => match a, b with
  | .d (.int i), .d (.int j) => if 0 ≤ j ∧ j ≤ 1000000 ∧ i.natAbs < 18446744073709551616 then some (.int (i ^ j.toNat), M) else none
  | _, _ => none
def opNeg : Op1 := fun a M => match a with
  | .d (.int i) => some (.int (-i), M)
  | _ => none

/-! ### comparisons -/
def opEqB (neg : Bool) : Op2 := fun a b M => match dataW M dataDeep a, dataW M dataDeep b with
  | some x, some y => if min x.depth y.depth ≤ roomDeep then some (.bool (neg != PyData.eqv x y), M) else none
  | _, _ => none
abbrev opEq : Op2 := opEqB false
abbrev opNe : Op2 := opEqB true
def cmpI (f : Int → Int → Bool) : Op2 := fun a b M => match a, b with
  | .d (.int i), .d (.int j) => some (.bool (f i j), M)
  | _, _ => none
abbrev opLt : Op2 := cmpI fun i j => decide (i < j)
abbrev opLe : Op2 := cmpI fun i j => decide (i ≤ j)
abbrev opGt : Op2 := cmpI fun i j => decide (j < i)
abbrev opGe : Op2 := cmpI fun i j => decide (j ≤ i)
def isN : W → Bool
  | .d .none => true
  | _ => false
def opIsN (neg : Bool) : Op2 := fun a b M => match b with
  | .d .none => some (.bool (neg != isN a), M)
  | _ => none
def opIsB (neg : Bool) : Op2 := fun a b M => match a, b with
  | .d (.bool i), .d (.bool j) => some (.bool (neg != decide (i = j)), M)
  | .ref _, .d (.bool _) => some (.bool neg, M)
  | _, _ => none
/-- a key of a dict: a number, a text -/
def keyW : W → Option Key
  | .d (.int i) => some (.inl i)
  | .d (.str x) => some (.inr x)
  | _ => none
def keyD : PyData → Option Key
  | .int i => some (.inl i)
  | .str x => some (.inr x)
  | _ => none
/-- a key: a tuple of numbers and texts -/
def keysW : W → Option (List Key)
  | .d (.tuple xs) => xs.mapM keyD
  | _ => none
def look {κ : Type} [DecidableEq κ] (kvs : List (κ × W)) (k : κ) : Option W := (kvs.find? fun kv => decide (kv.1 = k)).map (·.2)
def put {κ : Type} [DecidableEq κ] (kvs : List (κ × W)) (k : κ) (v : W) : List (κ × W) :=
  if kvs.any (fun kv => decide (kv.1 = k)) then kvs.map fun kv => if kv.1 = k then (kv.1, v) else kv else kvs ++ [(k, v)]
/-- what a dict holds at a key -/
def dget (o : O) (y : W) : Option (Option W) := match o with
  | .dk kvs => (keyW y).map (look kvs)
  | .dt kvs => (keysW y).map (look kvs)
  | _ => none
def opInB (neg : Bool) : Op2 := fun x c M => match c with
  | .ref p => (match M[p]? with
    | some (.lst ws) => (match dataW M dataDeep (.ref p), dataW M dataDeep x with
      | some (.list xs), some d => if min (PyData.depthAll xs) d.depth ≤ roomDeep then some (.bool (neg != xs.any fun z => PyData.eqv z d), M) else none
      | _, _ => none)
    | some o => (dget o x).map fun r => (.bool (neg != r.isSome), M)
    | none => none)
  | .d (.str z) => (match x with
    | .d (.str y) => if y.length = 1 then some (.bool (neg != decide (y.cps.toList.headD 0 ∈ z.cps.toList)), M) else none
    | _ => none)
  | c => (match dataW M dataDeep c, dataW M dataDeep x with
    | some (.tuple xs), some d => if min (PyData.depthAll xs) d.depth ≤ roomDeep then some (.bool (neg != xs.any fun z => PyData.eqv z d), M) else none
    | _, _ => none)
abbrev opIn : Op2 := opInB false
abbrev opNotIn : Op2 := opInB true

/-! ### subscripts -/
def ixN (n : Nat) (i : Int) : Option Nat := if 0 ≤ i then (if i < n then some i.toNat else none) else if -(n : Int) ≤ i then some (i + n).toNat else none
def atI {α : Type} (xs : List α) (i : Int) : Option α := (ixN xs.length i).bind fun j => xs[j]?
def opIx : Op2 := fun a b M => match a with
  | .ref p => (match M[p]? with
    | some (.lst ws) => (match b with
      | .d (.int i) => (atI ws i).map fun w => (w, M)
      | _ => none)
    | some o => (match dget o b with
      | some (some w) => some (w, M)
      | _ => none)
    | none => none)
  | .d (.list xs) => (match b with
    | .d (.int i) => (atI xs i).map fun w => (.d w, M)
    | _ => none)
  | .d (.str z) => (match b with
    | .d (.int i) => if z.length ≤ sizeMax then (atI z.cps.toList i).map fun c => (.str ⟨#[c]⟩, M) else none
    | _ => none)
  | a => (match a.items, b with
    | some ws, .d (.int i) => (atI ws i).map fun w => (w, M)
    | _, _ => none)
def setIx : W → W → W → Hh → Option Hh := fun o i v M => match o with
  | .ref p => (match M[p]? with
    | some (.lst ws) => (match i with
      | .d (.int k) => (ixN ws.length k).map fun j => M.set p (.lst (ws.set j v))
      | _ => none)
    | some (.dk kvs) => (match keyW i with
      | some k => if kvs.length < sizeMax then some (M.set p (.dk (put kvs k v))) else none
      | none => none)
    | some (.dt kvs) => (match keysW i with
      | some k => if kvs.length < sizeMax then some (M.set p (.dt (put kvs k v))) else none
      | none => none)
    | _ => none)
  | _ => none
/-- an end of a slice -/
def sIx (n d : Nat) : Option Int → Nat
  | none => d
  | some i => if i < 0 then (i + n).toNat else min i.toNat n
def cut {α : Type} (xs : List α) (lo hi : Option Int) : List α := (xs.drop (sIx xs.length 0 lo)).take (sIx xs.length xs.length hi - sIx xs.length 0 lo)
abbrev OpS := W → Option Int → Option Int → Hh → Option (W × Hh)
def opSl : OpS := fun a lo hi M => match a with
  | .ref p => (match M[p]? with
    | some (.lst ws) => some (.ref M.length, M ++ [.lst (cut ws lo hi)])
    | _ => none)
  | .d (.str z) => if z.length ≤ sizeMax then some (.str ⟨(cut z.cps.toList lo hi).toArray⟩, M) else none
  | a => (match a.items with
    | some ws => some (mkTup (cut ws lo hi), M)
    | none => none)
/-- an optional part -/
abbrev PM := Loc → Hh → R (Option Int)
def pNone : PM := fun _ h => .ok none h
def pSome (e : EM) : PM := fun L h => (e L h).bind fun x h => match x with
  | .d (.int i) => .ok (some i) h
  | _ => .bad
def eSl (f : OpS) (a : EM) (lo hi : PM) : EM := fun L h => (a L h).bind fun x h => (lo L h).bind fun l h => (hi L h).bind fun u h => .of (f x l u h)

/-! ### built-ins -/
def bLen : OpN := fun xs M => match xs with
  | [.ref p] => (match M[p]? with
    | some (.lst ws) => some (.int ws.length, M)
    | some (.dk kvs) => some (.int kvs.length, M)
    | some (.dt kvs) => some (.int kvs.length, M)
    | _ => none)
  | [.d (.list xs)] => some (.int xs.length, M)
  | [.d (.str z)] => if z.length ≤ sizeMax then some (.int z.length, M) else none
  | [w] => w.items.map fun ws => (.int ws.length, M)
  | _ => none
def bInt : OpN := fun xs M => match xs with
  | [.d (.int i)] => some (.int i, M)
  | [.d (.bool b)] => some (.int (if b then 1 else 0), M)
  | _ => none
def bTuple : OpN := fun xs M => match xs with
  | [.ref p] => (match M[p]? with
    | some (.lst ws) => some (mkTup ws, M)
    | _ => none)
  | [w] => w.items.map fun ws => (mkTup ws, M)
  | _ => none
def bList : OpN := fun xs M => match xs with
  | [.ref p] => (match M[p]? with
    | some (.lst ws) => some (.ref M.length, M ++ [.lst ws])
    | _ => none)
  | [w] => w.items.map fun ws => (.ref M.length, M ++ [.lst ws])
  | _ => none
/-- the built-in type of a value -/
def tyW (M : Hh) : W → Option String
  | .d .none => some "NoneType"
  | .d (.bool _) => some "bool"
  | .d (.int _) => some "int"
  | .d (.str _) => some "str"
  | .d (.list _) => some "list"
  | .d (.tuple _) => some "tuple"
  | .d (.dict _) => none
  | .mix _ => some "tuple"
  | .ref p => match M[p]? with
    | some (.lst _) => some "list"
    | some (.dk _) => some "dict"
    | some (.dt _) => some "dict"
    | _ => none
/-- isinstance(x, T), T a built-in type by name -/
def isI (T : String) : Op1 := fun w M => (tyW M w).map fun t => (.bool (t == T || (t == "bool" && T == "int")), M)
/-- isinstance(x, (T, U, ..)) -/
def isIs (Ts : List String) : Op1 := fun w M => (tyW M w).map fun t => (.bool (Ts.any fun T => t == T || (t == "bool" && T == "int")), M)
def bReprB : OpN := fun xs M => match xs with
  | [.d (.bool b)] => some (.str (if b then Str.ofString "True" else Str.ofString "False"), M)
  | _ => none
def isLst (h : Hh) : W → Bool
  | .ref p => (match h[p]? with
    | some (.lst _) => true
    | _ => false)
  | _ => false
/-- a method of a list -/
def eMetL (f : OpN) (o : EM) (a : AM) : EM := fun L h => (o L h).bind fun x h => if isLst h x = true then (a L h).bind fun xs h => .of (f (x :: xs) h) else .bad
/-- list.append, list.extend -/
def mAppend : OpN := fun xs M => match xs with
  | [.ref p, y] => (match M[p]? with
    | some (.lst ws) => if ws.length < sizeMax then some (.non, M.set p (.lst (ws ++ [y]))) else none
    | _ => none)
  | _ => none
def mExtend : OpN := fun xs M => match xs with
  | [.ref p, .ref q] => (match M[p]?, M[q]? with
    | some (.lst ws), some (.lst zs) => if ws.length + zs.length ≤ sizeMax then some (.non, M.set p (.lst (ws ++ zs))) else none
    | _, _ => none)
  | _ => none
end Mi
end

section
set_option maxHeartbeats 4000000
/-! MiP: the operations of MiO are the machine's. -/
namespace Mi
open PySem PySem.Spec PyProof.Rows L2

section
variable {X : Cx} {K : Fr} {mg : Mg} {φ : Phi} {M : Hh} {H : Hp} {Q : VK} {E : XK}
/-! ### ends -/
theorem Res.ofD {x : PyData} {v : V} (h : Res K mg (VR K) φ H (R.of (some (.d x, M))) Q E) (R : Rel K mg φ M H) (r : DR K H v x) : Q v H := Res.here h R (.d r)
theorem Res.ofI {i : Int} (h : Res K mg (VR K) φ H (R.of (some (.int i, M))) Q E) (R : Rel K mg φ M H) : Q (.int i) H := h.ofD R (.int i)
theorem Res.ofB {b : Bool} (h : Res K mg (VR K) φ H (R.of (some (.bool b, M))) Q E) (R : Rel K mg φ M H) : Q (.bl b) H := h.ofD R (.bl b)
theorem Res.ofS {x : Str} (h : Res K mg (VR K) φ H (R.of (some (.str x, M))) Q E) (R : Rel K mg φ M H) (ok : PyData.strOk x = true) : Q (.str x) H := h.ofD R (.str x ok)
theorem Res.ofV {w : W} {v : V} (h : Res K mg (VR K) φ H (R.of (some (w, M))) Q E) (R : Rel K mg φ M H) (r : VR K φ H v w) : Q v H := Res.here h R r
theorem Res.ofL {ws : List W} {vs : List V} (h : Res K mg (VR K) φ H (R.of (some (.ref M.length, M ++ [.lst ws]))) Q E) (R : Rel K mg φ M H) (r : VRs K φ H vs ws) (p : Addr) (hp : H p = none) : Q (.ref p) (upd H p (.lst vs)) :=
  h (φ ++ [p]) _ _ (R.new hp ⟨vs, upd_same, r.mono .app (.laid hp)⟩) (.ref (by rw [← R.len]; simp)) .app (.laid hp)
theorem Res.ofT {ws : List W} {vs : List V} (h : Res K mg (VR K) φ H (R.of (some (mkTup ws, M))) Q E) (R : Rel K mg φ M H) (r : VRs K φ H vs ws) (p : Addr) (hp : H p = none) : Q (.ref p) (upd H p (.tup vs)) :=
  h φ _ _ (R.other hp) (VR.mkTup upd_same (r.mono .refl (.laid hp))) .refl (.laid hp)
theorem VR.int_inv {v : V} {i : Int} (r : VR K φ H v (.d (.int i))) : v = .int i := by cases r with | d r => cases r; rfl
theorem VR.str_inv {v : V} {i : Str} (r : VR K φ H v (.d (.str i))) : v = .str i := by cases r with | d r => cases r; rfl
theorem VR.str_ok {v : V} {i : Str} (r : VR K φ H v (.d (.str i))) : PyData.strOk i = true := by cases r with | d r => cases r; assumption
theorem VR.bool_inv {v : V} {i : Bool} (r : VR K φ H v (.d (.bool i))) : v = .bl i := by cases r with | d r => cases r; rfl
theorem VR.none_inv {v : V} (r : VR K φ H v (.d .none)) : v = .non := by cases r with | d r => cases r; rfl
theorem VR.ref_inv {v : V} {i : Nat} (r : VR K φ H v (.ref i)) : ∃ a, v = .ref a ∧ φ[i]? = some a := by cases r with | ref h => exact ⟨_, rfl, h⟩
theorem VR.lst {v : V} {i : Nat} {ws : List W} (R : Rel K mg φ M H) (r : VR K φ H v (.ref i)) (h : M[i]? = some (.lst ws)) : ∃ a vs, v = .ref a ∧ φ[i]? = some a ∧ H a = some (.lst vs) ∧ VRs K φ H vs ws := by
  obtain ⟨a, rfl, e⟩ := r.ref_inv
  obtain ⟨vs, hv, rv⟩ := R.ob' h e
  exact ⟨a, vs, rfl, e, hv, rv⟩
theorem VR.rol_inv {v : V} {xs : List PyData} (r : VR K φ H v (.d (.list xs))) : ∃ a vs, v = .ref a ∧ SqL K H a vs ∧ DRs K H vs xs := by
  cases r with | d r => cases r with | rol s r => exact ⟨_, _, rfl, s.sq, r⟩

/-! ### data -/
mutual
theorem DR.dp : ∀ {v : V} {x : PyData}, DR K H v x → Dp K H v x
  | _, _, .non => .non
  | _, _, .bl b => .bl b
  | _, _, .int i => .int i
  | _, _, .str x _ => .str x
  | _, _, .tup s r => .tup (.of s) (DRs.dp r)
  | _, _, .rol s r => .lst s.sq (DRs.dp r)
theorem DRs.dp : ∀ {vs : List V} {xs : List PyData}, DRs K H vs xs → DpAll K H vs xs
  | _, _, .nil => .nil
  | _, _, .cons r s => .cons (DR.dp r) (DRs.dp s)
end
mutual
theorem DR.canLay : ∀ {v : V} {x : PyData}, DR K H v x → x.canLay0 = true
  | _, _, .non => rfl
  | _, _, .bl b => rfl
  | _, _, .int i => rfl
  | _, _, .str x ok => ok
  | _, _, .tup s r => by rw [PyData.canLay0]; exact DRs.canLay r
  | _, _, .rol s r => by rw [PyData.canLay0]; exact DRs.canLay r
theorem DRs.canLay : ∀ {vs : List V} {xs : List PyData}, DRs K H vs xs → PyData.canLayAll0 xs = true
  | _, _, .nil => rfl
  | _, _, .cons r s => by rw [PyData.canLayAll0, DR.canLay r, DRs.canLay s]; rfl
end
/-- data that lies, as a thing -/
def DpC (K : Fr) (H : Hp) (v : V) (x : PyData) : Prop := Dp K H v x ∧ x.canLay0 = true
theorem mapM_cons_some {α β : Type} {f : α → Option β} {x : α} {xs : List α} {zs : List β} (h : (x :: xs).mapM f = some zs) : ∃ y ys, f x = some y ∧ xs.mapM f = some ys ∧ zs = y :: ys := by
  rw [List.mapM_cons] at h
  cases hx : f x with
  | none => rw [hx] at h; cases h
  | some y =>
    rw [hx] at h
    cases hs : xs.mapM f with
    | none => rw [hs] at h; cases h
    | some ys => rw [hs] at h; cases h; exact ⟨y, ys, rfl, rfl, rfl⟩
theorem dataWs_dp {n : Nat} (ih : ∀ {v : V} {w : W} {x : PyData}, VR K φ H v w → dataW M n w = some x → DpC K H v x) : ∀ {vs : List V} {ws : List W} {xs : List PyData}, VRs K φ H vs ws → ws.mapM (dataW M n) = some xs → DpAll K H vs xs ∧ PyData.canLayAll0 xs = true
  | _, _, _, .nil, h => by cases h; exact ⟨.nil, rfl⟩
  | _, _, _, .cons r s, h => by
    obtain ⟨y, ys, h1, h2, rfl⟩ := mapM_cons_some h
    obtain ⟨a1, a2⟩ := ih r h1
    obtain ⟨b1, b2⟩ := dataWs_dp ih s h2
    exact ⟨.cons a1 b1, by rw [PyData.canLayAll0, a2, b2]; rfl⟩
theorem dataW_dp (R : Rel K mg φ M H) : ∀ (n : Nat) {v : V} {w : W} {x : PyData}, VR K φ H v w → dataW M n w = some x → DpC K H v x
  | 0, v, w, x, r, h => by
    cases r with
    | d r => simp at h; subst h; exact ⟨r.dp, r.canLay⟩
    | ref _ => cases h
    | mix _ _ => cases h
  | n + 1, v, w, x, r, h => by
    cases r with
    | d r => simp at h; subst h; exact ⟨r.dp, r.canLay⟩
    | ref e =>
      unfold dataW at h
      split at h
      · rename_i ws hm
        obtain ⟨vs, hv, rv⟩ := R.ob' hm e
        cases hs : ws.mapM (dataW M n) with
        | none => rw [hs] at h; cases h
        | some xs =>
          rw [hs] at h; cases h
          obtain ⟨a1, a2⟩ := dataWs_dp (fun r h => dataW_dp R n r h) rv hs
          exact ⟨.lst (.of hv) a1, by rw [PyData.canLay0]; exact a2⟩
      · cases h
    | mix s rv =>
      rename_i a vs ws
      unfold dataW at h
      cases hs : ws.mapM (dataW M n) with
      | none => rw [hs] at h; cases h
      | some xs =>
        rw [hs] at h; cases h
        obtain ⟨a1, a2⟩ := dataWs_dp (fun r h => dataW_dp R n r h) rv hs
        exact ⟨.tup (.of s) a1, by rw [PyData.canLay0]; exact a2⟩

theorem strOk_app {x y : Str} (h1 : PyData.strOk x = true) (h2 : PyData.strOk y = true) : PyData.strOk (x ++ y) = true := by
  show PyData.strOk ⟨x.cps ++ y.cps⟩ = true
  unfold PyData.strOk at h1 h2 ⊢
  simp_all [Array.all_append]
/-! ### numbers, texts, lists, tuples together -/
variable {k : Nat}
theorem or_add : OpR X (binaryOp .Add) (rel2 X.K X.mg opAdd) := by
  intro pins s σ H x y v u Q I rx ry ⟨φ, M, a, b, R, r1, r2, h⟩
  unfold opAdd at h
  split at h
  · obtain rfl := r1.int_inv; obtain rfl := r2.int_inv
    exact op_add pins s σ H _ _ v u Q I rx ry ⟨_, _, rfl, rfl, h.ofI R⟩
  · have o1 := r1.str_ok; have o2 := r2.str_ok
    obtain rfl := r1.str_inv; obtain rfl := r2.str_inv
    split at h
    · rename_i hz
      exact op_add_str pins s σ H _ _ v u Q I rx ry ⟨_, _, rfl, rfl, hz, h.ofS R (strOk_app o1 o2)⟩
    · exact h.elim
  · split at h
    · rename_i h1 h2
      obtain ⟨p, xs, rfl, e1, hx, rx1⟩ := r1.lst R h1
      obtain ⟨q, ys, rfl, e2, hy, ry1⟩ := r2.lst R h2
      split at h
      · rename_i hz
        exact op_cat pins s σ H _ _ v u Q I rx ry ⟨p, q, xs, ys, rfl, rfl, hx, hy, by rw [rx1.length, ry1.length]; exact hz, fun l hl => h.ofL R (rx1.append ry1) l hl⟩
      · exact h.elim
    · exact h.elim
  · split at h
    · rename_i h1 h2
      obtain ⟨p, xs, rfl, e1, rx1⟩ := r1.items h1
      obtain ⟨q, ys, rfl, e2, ry1⟩ := r2.items h2
      split at h
      · rename_i hz
        refine op_catA pins s σ H _ _ v u Q I rx ry ⟨p, q, xs, ys, rfl, rfl, .of e1, .of e2, by rw [rx1.length, ry1.length]; exact hz, fun e => ?_, fun _ e => ?_, fun _ _ l hl => h.ofT R (rx1.append ry1) l hl⟩
        · subst e; cases rx1
          exact h.ofV R (VR.mkTup e2 ry1)
        · subst e; cases ry1
          exact h.ofV R (VR.mkTup e1 (by rw [List.append_nil]; exact rx1))
      · exact h.elim
    · exact h.elim
theorem or_sub : OpR X (binaryOp .Sub) (rel2 X.K X.mg opSub) := by
  intro pins s σ H x y v u Q I rx ry ⟨φ, M, a, b, R, r1, r2, h⟩
  unfold opSub at h
  split at h
  · obtain rfl := r1.int_inv; obtain rfl := r2.int_inv
    exact op_sub pins s σ H _ _ v u Q I rx ry ⟨_, _, rfl, rfl, h.ofI R⟩
  · exact h.elim
theorem rep_rel {vs : List V} {ws : List W} (r : VRs K φ H vs ws) : ∀ n : Nat, VRs K φ H (List.replicate n vs).flatten (List.replicate n ws).flatten
  | 0 => .nil
  | n + 1 => by
    rw [List.replicate_succ, List.replicate_succ, List.flatten_cons, List.flatten_cons]
    exact r.append (rep_rel r n)
theorem or_mul : OpR X (binaryOp .Mult) (rel2 X.K X.mg opMul) := by
  intro pins s σ H x y v u Q I rx ry ⟨φ, M, a, b, R, r1, r2, h⟩
  unfold opMul at h
  split at h
  · obtain rfl := r1.int_inv; obtain rfl := r2.int_inv
    split at h
    · rename_i hz
      exact op_mul pins s σ H _ _ v u Q I rx ry ⟨_, _, rfl, rfl, by unfold CMul; omega, h.ofI R⟩
    · exact h.elim
  · obtain rfl := r2.int_inv
    split at h
    · rename_i h1
      obtain ⟨p, xs, rfl, e1, hx, rx1⟩ := r1.lst R h1
      split at h
      · rename_i hz
        exact op_rep pins s σ H _ _ v u Q I rx ry ⟨p, _, xs, rfl, rfl, hx, by omega, by omega, by rw [rx1.length]; exact hz.2, fun l hl => h.ofL R (rep_rel rx1 _) l hl⟩
      · exact h.elim
    · exact h.elim
  · exact h.elim
theorem or_floorDiv : OpR X (binaryOp .FloorDiv) (rel2 X.K X.mg opFloorDiv) := by
  intro pins s σ H x y v u Q I rx ry ⟨φ, M, a, b, R, r1, r2, h⟩
  unfold opFloorDiv at h
  split at h
  · obtain rfl := r1.int_inv; obtain rfl := r2.int_inv
    split at h
    · rename_i hz
      exact op_fdivW pins s σ H _ _ v u Q I rx ry ⟨_, _, rfl, rfl, hz, h.ofI R⟩
    · exact h.elim
  · exact h.elim
theorem or_mod : OpR X (binaryOp .Mod) (rel2 X.K X.mg opMod) := by
  intro pins s σ H x y v u Q I rx ry ⟨φ, M, a, b, R, r1, r2, h⟩
  unfold opMod at h
  split at h
  · obtain rfl := r1.int_inv; obtain rfl := r2.int_inv
    split at h
    · rename_i hz
      exact op_mod pins s σ H _ _ v u Q I rx ry ⟨_, _, rfl, rfl, hz, h.ofI R⟩
    · exact h.elim
  · exact h.elim
theorem or_pow : OpR X (binaryOp .Pow) (rel2 X.K X.mg opPow) := by
  intro pins s σ H x y v u Q I rx ry ⟨φ, M, a, b, R, r1, r2, h⟩
  unfold opPow at h
  split at h
  · obtain rfl := r1.int_inv; obtain rfl := r2.int_inv
    split at h
    · rename_i hz
      exact op_pow pins s σ H _ _ v u Q I rx ry ⟨_, _, rfl, rfl, ⟨by omega, by omega, by omega⟩, h.ofI R⟩
    · exact h.elim
  · exact h.elim
theorem or_neg : UnR X (unaryOp .USub) (rel1 X.K X.mg opNeg) := by
  intro pins s σ H x v Q I rx ⟨φ, M, a, R, r1, h⟩
  unfold opNeg at h
  split at h
  · obtain rfl := r1.int_inv
    exact un_neg pins s σ H _ v Q I rx ⟨_, rfl, h.ofI R⟩
  · exact h.elim

/-! ### comparisons -/
theorem or_eq (hr : Room k X.A) : OpR X (compareOp .Eq) (rel2 X.K X.mg opEq) := by
  intro pins s σ H x y v u Q I rx ry ⟨φ, M, a, b, R, r1, r2, h⟩
  unfold opEq opEqB at h
  split at h
  · rename_i d e h1 h2
    split at h
    · rename_i hz
      obtain ⟨d1, c1⟩ := dataW_dp R _ r1 h1
      obtain ⟨d2, c2⟩ := dataW_dp R _ r2 h2
      obtain ⟨as, q1⟩ := Dp.reads I d x v d1 rx
      obtain ⟨bs, q2⟩ := Dp.reads I e y u d2 ry
      exact SeqAt.compareEq_reads q1 q2 c1 c2 (by have := hr.units; simp only [roomDeep] at hz; omega) ⟨.bl _, H, I, rfl, by simpa using h.ofB R⟩
    · exact h.elim
  · exact h.elim
theorem or_ne (hr : Room k X.A) : OpR X (compareOp .NotEq) (rel2 X.K X.mg opNe) := by
  intro pins s σ H x y v u Q I rx ry ⟨φ, M, a, b, R, r1, r2, h⟩
  unfold opNe opEqB at h
  split at h
  · rename_i d e h1 h2
    split at h
    · rename_i hz
      obtain ⟨d1, c1⟩ := dataW_dp R _ r1 h1
      obtain ⟨d2, c2⟩ := dataW_dp R _ r2 h2
      obtain ⟨as, q1⟩ := Dp.reads I d x v d1 rx
      obtain ⟨bs, q2⟩ := Dp.reads I e y u d2 ry
      exact SeqAt.compareNe_reads q1 q2 c1 c2 (by have := hr.units; simp only [roomDeep] at hz; omega) ⟨.bl _, H, I, rfl, by simpa using h.ofB R⟩
    · exact h.elim
  · exact h.elim
theorem or_cmp {op : CmpOp} {f : Int → Int → Bool} (ho : OpR X (compareOp op) (rI0 fun i j => .bl (f i j))) : OpR X (compareOp op) (rel2 X.K X.mg (cmpI f)) := by
  intro pins s σ H x y v u Q I rx ry ⟨φ, M, a, b, R, r1, r2, h⟩
  unfold cmpI at h
  split at h
  · obtain rfl := r1.int_inv; obtain rfl := r2.int_inv
    exact ho pins s σ H _ _ v u Q I rx ry ⟨_, _, rfl, rfl, h.ofB R⟩
  · exact h.elim
theorem or_lt : OpR X (compareOp .Lt) (rel2 X.K X.mg opLt) := or_cmp op_lt
theorem or_le : OpR X (compareOp .LtE) (rel2 X.K X.mg opLe) := or_cmp op_le
theorem or_gt : OpR X (compareOp .Gt) (rel2 X.K X.mg opGt) := or_cmp op_gt
theorem or_ge : OpR X (compareOp .GtE) (rel2 X.K X.mg opGe) := or_cmp op_ge
theorem isN_VR {v : V} {w : W} (r : VR K φ H v w) : isN w = decide (v = .non) := by
  cases r with
  | d r => cases r <;> simp [isN]
  | ref _ => simp [isN]
  | mix _ _ => simp [isN]
theorem or_isN : OpR X (compareOp .Is) (rel2 X.K X.mg (opIsN false)) := by
  intro pins s σ H x y v u Q I rx ry ⟨φ, M, a, b, R, r1, r2, h⟩
  unfold opIsN at h
  split at h
  · obtain rfl := r2.none_inv
    refine op_isN pins s σ H _ _ v u Q I rx ry ⟨rfl, ?_⟩
    rw [← isN_VR r1]; simpa using h.ofB R
  · exact h.elim
theorem or_notN : OpR X (compareOp .IsNot) (rel2 X.K X.mg (opIsN true)) := by
  intro pins s σ H x y v u Q I rx ry ⟨φ, M, a, b, R, r1, r2, h⟩
  unfold opIsN at h
  split at h
  · obtain rfl := r2.none_inv
    refine op_notN pins s σ H _ _ v u Q I rx ry ⟨rfl, ?_⟩
    rw [← isN_VR r1]; simpa using h.ofB R
  · exact h.elim
theorem or_isB : OpR X (compareOp .Is) (rel2 X.K X.mg (opIsB false)) := by
  intro pins s σ H x y v u Q I rx ry ⟨φ, M, a, b, R, r1, r2, h⟩
  unfold opIsB at h
  split at h
  · obtain rfl := r1.bool_inv; obtain rfl := r2.bool_inv
    exact op_is_bl pins s σ H _ _ v u Q I rx ry ⟨_, _, rfl, rfl, by simpa using h.ofB R⟩
  · obtain ⟨p, rfl, _⟩ := r1.ref_inv; obtain rfl := r2.bool_inv
    cases rx; cases ry
    exact wpAny_is_other rfl (fun z => by cases z) ⟨.bl false, H, I, rfl, h.ofB R⟩
  · exact h.elim
theorem or_notB : OpR X (compareOp .IsNot) (rel2 X.K X.mg (opIsB true)) := by
  intro pins s σ H x y v u Q I rx ry ⟨φ, M, a, b, R, r1, r2, h⟩
  unfold opIsB at h
  split at h
  · obtain rfl := r1.bool_inv; obtain rfl := r2.bool_inv
    exact op_isnot_bl pins s σ H _ _ v u Q I rx ry ⟨_, _, rfl, rfl, by simpa using h.ofB R⟩
  · obtain ⟨p, rfl, _⟩ := r1.ref_inv; obtain rfl := r2.bool_inv
    cases rx; cases ry
    exact wpAny_isNot_other rfl (fun z => by cases z) ⟨.bl true, H, I, rfl, h.ofB R⟩
  · exact h.elim
end
end Mi
end

section
set_option maxHeartbeats 4000000
/-! MiP2: in, subscripts, slices, built-ins. -/
namespace Mi
open PySem PySem.Spec PyProof.Rows L2

section
variable {X : Cx} {K : Fr} {mg : Mg} {φ : Phi} {M : Hh} {H : Hp} {Q : VK} {E : XK} {k : Nat}
/-! ### dicts -/
theorem find_rel {κ : Type} [DecidableEq κ] {key : κ} : ∀ {ks : List (κ × V)} {kvs : List (κ × W)}, ks.map (·.1) = kvs.map (·.1) → VRs K φ H (ks.map (·.2)) (kvs.map (·.2)) →
    (valV ks key = none ∧ look kvs key = none) ∨ ∃ v w, valV ks key = some v ∧ look kvs key = some w ∧ VR K φ H v w
  | [], [], _, _ => .inl ⟨rfl, rfl⟩
  | p :: ks, q :: kvs, hk, hv => by
    obtain ⟨k1, v⟩ := p
    obtain ⟨k2, w⟩ := q
    simp only [List.map_cons, List.cons.injEq] at hk hv
    obtain ⟨rfl, hk⟩ := hk
    cases hv with
    | cons r hv =>
      unfold valV look
      rw [List.find?_cons, List.find?_cons]
      by_cases e : k1 = key
      · subst e
        exact .inr ⟨v, w, by simp, by simp, r⟩
      · simp only [e, decide_false]
        exact find_rel hk hv
  | [], _ :: _, hk, _ => by simp at hk
  | _ :: _, [], hk, _ => by simp at hk
theorem any_rel {κ : Type} [DecidableEq κ] {key : κ} : ∀ {ks : List (κ × V)} {kvs : List (κ × W)}, ks.map (·.1) = kvs.map (·.1) → (ks.any fun kv => decide (kv.1 = key)) = kvs.any fun kv => decide (kv.1 = key)
  | [], [], _ => rfl
  | p :: ks, q :: kvs, hk => by
    simp only [List.map_cons, List.cons.injEq] at hk
    rw [List.any_cons, List.any_cons, hk.1, any_rel hk.2]
  | [], _ :: _, hk => by simp at hk
  | _ :: _, [], hk => by simp at hk
theorem put_rel {κ : Type} [DecidableEq κ] {key : κ} {v : V} {w : W} (r : VR K φ H v w) {ks : List (κ × V)} {kvs : List (κ × W)} (hk : ks.map (·.1) = kvs.map (·.1)) (hv : VRs K φ H (ks.map (·.2)) (kvs.map (·.2))) :
    (putK ks key v).map (·.1) = (put kvs key w).map (·.1) ∧ VRs K φ H ((putK ks key v).map (·.2)) ((put kvs key w).map (·.2)) := by
  unfold putK put
  rw [any_rel hk]
  split
  · have go : ∀ {ks : List (κ × V)} {kvs : List (κ × W)}, ks.map (·.1) = kvs.map (·.1) → VRs K φ H (ks.map (·.2)) (kvs.map (·.2)) →
        (ks.map (fun kv => if kv.1 = key then (kv.1, v) else kv)).map (·.1) = (kvs.map (fun kv => if kv.1 = key then (kv.1, w) else kv)).map (·.1) ∧
        VRs K φ H ((ks.map (fun kv => if kv.1 = key then (kv.1, v) else kv)).map (·.2)) ((kvs.map (fun kv => if kv.1 = key then (kv.1, w) else kv)).map (·.2)) := by
      intro ks
      induction ks with
      | nil => intro kvs hk hv; cases kvs with
        | nil => exact ⟨rfl, .nil⟩
        | cons _ _ => simp at hk
      | cons p ks ih => intro kvs hk hv; cases kvs with
        | nil => simp at hk
        | cons q kvs =>
          simp only [List.map_cons, List.cons.injEq] at hk hv ⊢
          cases hv with
          | cons rr hv =>
            obtain ⟨a, b⟩ := ih hk.2 hv
            rw [hk.1]
            by_cases e : q.1 = key
            · simp only [e, if_true]
              exact ⟨⟨trivial, a⟩, .cons r b⟩
            · simp only [e, if_false]
              exact ⟨⟨hk.1, a⟩, .cons rr b⟩
    exact go hk hv
  · rw [List.map_append, List.map_append, List.map_append, List.map_append, hk]
    exact ⟨rfl, hv.append (.cons r .nil)⟩
theorem keyW_VR {v : V} {w : W} {key : Key} (r : VR K φ H v w) (h : keyW w = some key) : v = kV key := by
  unfold keyW at h
  split at h
  · cases h; exact r.int_inv
  · cases h; exact r.str_inv
  · cases h
theorem keysD_DR : ∀ {vs : List V} {xs : List PyData} {ks : List Key}, DRs K H vs xs → xs.mapM keyD = some ks → vs = ks.map kV
  | _, _, _, .nil, h => by cases h; rfl
  | _, _, _, .cons r s, h => by
    obtain ⟨y, ys, h1, h2, rfl⟩ := mapM_cons_some h
    rw [List.map_cons, ← keysD_DR s h2]
    unfold keyD at h1
    split at h1
    · cases h1; cases r; rfl
    · cases h1; cases r; rfl
    · cases h1
theorem keysW_VR {v : V} {w : W} {ks : List Key} (r : VR K φ H v w) (h : keysW w = some ks) : ∃ b, v = .ref b ∧ H b = some (.tup (ks.map kV)) := by
  unfold keysW at h
  split at h
  · rename_i xs
    cases r with
    | d r => cases r with
      | tup s r => exact ⟨_, rfl, by rw [← keysD_DR r h]; exact s⟩
  · cases h
/-- what is held at a key -/
theorem dget_ok {o : O} {a : Addr} {y : V} {w : W} {r : Option W} (ho : OR K mg φ H a o) (ry : VR K φ H y w) (h : dget o w = some r) : ∃ z, DGet H a y z ∧ ((z = none ∧ r = none) ∨ ∃ v u, z = some v ∧ r = some u ∧ VR K φ H v u) := by
  cases o with
  | lst _ => cases h
  | ins _ _ => cases h
  | dk kvs =>
    obtain ⟨ks, hs, hk, hv⟩ := ho
    unfold dget at h
    cases e : keyW w with
    | none => rw [e] at h; cases h
    | some key =>
      rw [e] at h; cases h
      rw [keyW_VR ry e]
      refine ⟨_, .k hs, ?_⟩
      rcases find_rel (key := key) hk hv with ⟨h1, h2⟩ | ⟨v, u, h1, h2, r⟩
      · exact .inl ⟨h1, h2⟩
      · exact .inr ⟨v, u, h1, h2, r⟩
  | dt kvs =>
    obtain ⟨ks, hs, hk, hv⟩ := ho
    unfold dget at h
    cases e : keysW w with
    | none => rw [e] at h; cases h
    | some key =>
      rw [e] at h; cases h
      obtain ⟨b, rfl, hb⟩ := keysW_VR ry e
      refine ⟨_, .t hs hb, ?_⟩
      rcases find_rel (key := key) hk hv with ⟨h1, h2⟩ | ⟨v, u, h1, h2, r⟩
      · exact .inl ⟨h1, h2⟩
      · exact .inr ⟨v, u, h1, h2, r⟩
theorem DGet.some_eq {z : Option V} {r : Option W} (h : (z = none ∧ r = none) ∨ ∃ v u, z = some v ∧ r = some u ∧ VR K φ H v u) : z.isSome = r.isSome := by
  rcases h with ⟨rfl, rfl⟩ | ⟨v, u, rfl, rfl, _⟩ <;> rfl

/-! ### in, not in -/
theorem or_inB {neg : Bool} {op : CmpOp} (hr : Room k X.A) (e : op = if neg then .NotIn else .In) : OpR X (compareOp op) (rel2 X.K X.mg (opInB neg)) := by
  intro pins s σ H x y v u Q I rx ry ⟨φ, M, a, b, R, r1, r2, h⟩
  have hu1 : X.A.units + 64 < cLine := hr.units
  unfold opInB at h
  split at h
  · rename_i p
    split at h
    · rename_i ws hm
      split at h
      · rename_i xs d h1 h2
        split at h
        · rename_i hz
          obtain ⟨d1, c1⟩ := dataW_dp R _ r1 h2
          obtain ⟨d2, c2⟩ := dataW_dp R _ r2 h1
          obtain ⟨as, q1⟩ := Dp.reads I d x v d1 rx
          obtain ⟨bs, q2⟩ := Dp.reads I _ y u d2 ry
          cases neg with
          | false => subst e; exact SeqAt.in_list_reads q2 q1 (by simpa [PyData.canLay0] using c2) c1 (by simp only [roomDeep] at hz; omega) ⟨.bl _, H, I, rfl, by simpa using h.ofB R⟩
          | true => subst e; exact SeqAt.notIn_list_reads q2 q1 (by simpa [PyData.canLay0] using c2) c1 (by simp only [roomDeep] at hz; omega) ⟨.bl _, H, I, rfl, by simpa using h.ofB R⟩
        · exact h.elim
      · exact h.elim
    · rename_i o hm ho
      obtain ⟨q, rfl, eq⟩ := r2.ref_inv
      have ho := R.ob' ho eq
      cases hd : dget o a with
      | none => rw [hd] at h; exact h.elim
      | some r =>
        rw [hd] at h
        obtain ⟨z, g, hz⟩ := dget_ok ho r1 hd
        obtain rfl : u = Value.ref q := ry
        have hs := DGet.some_eq hz
        cases neg with
        | false => subst e; exact d_in (by omega) I g rx fun s' I' => ⟨.bl _, H, I', rfl, by rw [hs]; simpa using h.ofB R⟩
        | true => subst e; exact d_notIn (by omega) I g rx fun s' I' => ⟨.bl _, H, I', rfl, by rw [hs]; simpa using h.ofB R⟩
    · exact h.elim
  · rename_i z
    split at h
    · rename_i y'
      split at h
      · rename_i hl
        obtain rfl := r1.str_inv
        obtain rfl := r2.str_inv
        obtain ⟨c, hc⟩ : ∃ c, y' = ⟨#[c]⟩ := by
          obtain ⟨⟨l⟩⟩ := y'
          match l, hl with
          | [c], _ => exact ⟨c, rfl⟩
        subst hc
        cases neg with
        | false => subst e; exact op_in_sign pins s σ H _ _ v u Q I rx ry ⟨c, z, rfl, rfl, by simpa using h.ofB R⟩
        | true => subst e; exact op_notIn_sign pins s σ H _ _ v u Q I rx ry ⟨c, z, rfl, rfl, by simpa using h.ofB R⟩
      · exact h.elim
    · exact h.elim
  · split at h
    · rename_i xs d h1 h2
      split at h
      · rename_i hz
        obtain ⟨d1, c1⟩ := dataW_dp R _ r1 h2
        obtain ⟨d2, c2⟩ := dataW_dp R _ r2 h1
        obtain ⟨as, q1⟩ := Dp.reads I d x v d1 rx
        obtain ⟨bs, q2⟩ := Dp.reads I _ y u d2 ry
        cases neg with
        | false => subst e; exact SeqAt.in_tuple_reads q2 q1 (by simpa [PyData.canLay0] using c2) c1 (by simp only [roomDeep] at hz; omega) ⟨.bl _, H, I, rfl, by simpa using h.ofB R⟩
        | true => subst e; exact SeqAt.notIn_tuple_reads q2 q1 (by simpa [PyData.canLay0] using c2) c1 (by simp only [roomDeep] at hz; omega) ⟨.bl _, H, I, rfl, by simpa using h.ofB R⟩
      · exact h.elim
    · exact h.elim
theorem or_in (hr : Room k X.A) : OpR X (compareOp .In) (rel2 X.K X.mg opIn) := or_inB (neg := false) hr rfl
theorem or_notIn (hr : Room k X.A) : OpR X (compareOp .NotIn) (rel2 X.K X.mg opNotIn) := or_inB (neg := true) hr rfl

/-! ### subscripts -/
theorem atI_rel {vs : List V} {ws : List W} {i : Int} {w : W} (r : VRs K φ H vs ws) (h : Mi.atI ws i = some w) : ∃ v, L2.atI vs i = some v ∧ VR K φ H v w := by
  unfold Mi.atI Mi.ixN at h
  unfold L2.atI L2.ixN
  rw [r.length]
  cases e : (if 0 ≤ i then (if i < (ws.length : Int) then some i.toNat else none) else if -(ws.length : Int) ≤ i then some (i + (ws.length : Int)).toNat else none) with
  | none => rw [e] at h; cases h
  | some j => rw [e] at h; exact r.get' h
theorem ix_dict (hr : Room k X.A) : IxR X (fun x y H Q => ∃ a z, x = .ref a ∧ DGet H a y (some z) ∧ Q z H) := by
  intro value slice pins s σ H x y v u Q I rx ry h hs
  obtain ⟨a, z, rfl, g, q⟩ := h
  obtain rfl : v = Value.ref a := rx
  have hu := hr.units
  rcases id g with ⟨kvs, key, e, ey, l⟩ | ⟨kvs, key, b, e, ey, eb, l⟩
  · subst ey
    obtain ⟨_, _, vs, rel, dd⟩ := dk_rd I.hok e
    obtain ⟨got, hw, rgot⟩ := RelO.some_of (v := z) (o := valueAt vs key) (by rw [l]; exact rel.val key)
    exact subscriptTail_builtinR (x := got) (dict_typeIs I g) PySem.F.slot_dict_getitem.lookup (wpAny_getItem_of (kV_is ry) dd.mapOf hw ⟨rfl, z, H, I.tok _, rgot, q⟩) hs
  · subst ey
    cases (show u = Value.ref b from ry)
    obtain ⟨_, _, xs, rel, dd⟩ := dt_rd I.hok e
    obtain ⟨got, hw, rgot⟩ := RelO.some_of (v := z) (o := (atKey xs key).map (·.2)) (by rw [l]; exact rel.val key)
    obtain ⟨p, hp, hp2⟩ := Option.map_eq_some_iff.mp hw
    exact subscriptTail_builtinR (x := got) (dict_typeIs I g) PySem.F.slot_dict_getitem.lookup (wpAny_getItem_heap (tupleKind_room_in1 (by omega)) (key_of I.hok eb) dd hp ⟨hp2, z, H, I.tok _, by rw [hp2]; exact rgot, q⟩) hs
theorem xr_ix (hr : Room k X.A) : IxR X (rel2 X.K X.mg opIx) := by
  intro value slice pins s σ H x y v u Q I rx ry ⟨φ, M, a, b, R, r1, r2, h⟩ hs
  unfold opIx at h
  split at h
  · rename_i p
    split at h
    · rename_i ws hm
      obtain ⟨q, vs, rfl, eq, hq, rvs⟩ := r1.lst R hm
      split at h
      · rename_i i
        obtain rfl := r2.int_inv
        cases hi : Mi.atI ws i with
        | none => rw [hi] at h; exact h.elim
        | some w =>
          rw [hi] at h
          obtain ⟨z, hz, rz⟩ := atI_rel rvs hi
          exact ix_list value slice pins s σ H _ _ v u Q I rx ry ⟨q, vs, i, z, rfl, rfl, .of hq, hz, h.ofV R rz⟩ hs
      · exact h.elim
    · rename_i o hm ho
      obtain ⟨q, rfl, eq⟩ := r1.ref_inv
      have ho := R.ob' ho eq
      split at h
      · rename_i w hd
        obtain ⟨z, g, hz⟩ := dget_ok ho r2 hd
        rcases hz with ⟨_, hz⟩ | ⟨z', w', rfl, hw, rz⟩
        · cases hz
        · cases hw
          exact ix_dict hr value slice pins s σ H _ _ v u Q I rx ry ⟨q, z', rfl, g, h.ofV R rz⟩ hs
      · exact h.elim
    · exact h.elim
  · rename_i xs
    obtain ⟨q, vs, rfl, sq, rvs⟩ := r1.rol_inv
    split at h
    · rename_i i
      obtain rfl := r2.int_inv
      cases hi : Mi.atI xs i with
      | none => rw [hi] at h; exact h.elim
      | some w =>
        rw [hi] at h
        have hi' : Mi.atI (xs.map W.d) i = some (.d w) := by
          unfold Mi.atI at hi ⊢
          rw [List.length_map]
          cases e : Mi.ixN xs.length i with
          | none => rw [e] at hi; cases hi
          | some j => rw [e] at hi; simp only [Option.bind_some] at hi ⊢; rw [List.getElem?_map, hi]; rfl
        obtain ⟨z, hz, rz⟩ := atI_rel (φ := φ) (VRs.ofD rvs) hi'
        exact ix_list value slice pins s σ H _ _ v u Q I rx ry ⟨q, vs, i, z, rfl, rfl, sq, hz, h.ofV R rz⟩ hs
    · exact h.elim
  · rename_i z
    have ok := r1.str_ok
    obtain rfl := r1.str_inv
    split at h
    · rename_i i
      obtain rfl := r2.int_inv
      split at h
      · rename_i hz
        cases hi : Mi.atI z.cps.toList i with
        | none => rw [hi] at h; exact h.elim
        | some c =>
          rw [hi] at h
          have hi' : L2.atI z.cps.toList i = some c := hi
          have hc : c ∈ z.cps.toList := by
            unfold Mi.atI at hi
            cases e : Mi.ixN z.cps.toList.length i with
            | none => rw [e] at hi; cases hi
            | some j => rw [e] at hi; exact List.mem_of_getElem? hi
          have okc : PyData.strOk ⟨#[c]⟩ = true := by
            unfold PyData.strOk at ok ⊢
            rw [← Array.all_toList] at ok ⊢
            have := List.all_eq_true.mp ok c hc
            simpa using this
          exact ix_str value slice pins s σ H _ _ v u Q I rx ry ⟨z, i, c, rfl, rfl, hz, hi', h.ofS R okc⟩ hs
      · exact h.elim
    · exact h.elim
  · split at h
    · rename_i ws i h1
      obtain ⟨q, vs, rfl, eq, rvs⟩ := r1.items h1
      obtain rfl := r2.int_inv
      cases hi : Mi.atI ws i with
      | none => rw [hi] at h; exact h.elim
      | some w =>
        rw [hi] at h
        obtain ⟨z, hz, rz⟩ := atI_rel rvs hi
        exact ix_tup value slice pins s σ H _ _ v u Q I rx ry ⟨q, vs, i, z, rfl, rfl, .of eq, hz, h.ofV R rz⟩ hs
    · exact h.elim
theorem ps_ix (hr : Room k X.A) : PSet X (relSet X.K X.mg setIx) := by
  intro pins s σ H o i v ov iv u Q I ro ri rv ⟨φ, M, wo, wi, wv, M', R, r1, r2, r3, h, q⟩
  have hu := hr.units
  unfold setIx at h
  split at h
  · rename_i p
    split at h
    · rename_i ws hm
      obtain ⟨a, vs, rfl, ea, ha, rvs⟩ := r1.lst R hm
      split at h
      · rename_i n
        obtain rfl := r2.int_inv
        cases hj : Mi.ixN ws.length n with
        | none => rw [hj] at h; cases h
        | some j =>
          rw [hj] at h; cases h
          refine set_list pins s σ H _ _ v ov iv u Q I ro ri rv ⟨a, vs, n, j, rfl, rfl, ha, ?_, q _ _ (R.lst ea ha (rvs.set j r3)) .refl (.lst ha)⟩
          rw [rvs.length]; exact hj
      · cases h
    · rename_i kvs hm
      obtain ⟨a, rfl, ea⟩ := r1.ref_inv
      obtain ⟨ks, ha, hk, hv⟩ := R.ob' hm ea
      split at h
      · rename_i key hkey
        split at h
        · rename_i hz
          cases h
          obtain rfl := keyW_VR r2 hkey
          obtain rfl : ov = Value.ref a := ro
          have hlen : ks.length = kvs.length := by have := congrArg List.length hk; simpa using this
          refine d_setItem (by omega) I (.k ha (by rw [hlen]; exact hz)) ri rv fun s' I' => ⟨_, I', q φ _ (R.write ea ha (by intro _ e; cases e) (by intro _ _ e; cases e) ?_) .refl (.write ha (by intro _ e; cases e) (by intro _ _ e; cases e))⟩
          obtain ⟨p1, p2⟩ := put_rel (key := key) r3 hk hv
          exact ⟨_, upd_same, p1, p2.mono .refl (.write ha (by intro _ e; cases e) (by intro _ _ e; cases e))⟩
        · cases h
      · cases h
    · rename_i kvs hm
      obtain ⟨a, rfl, ea⟩ := r1.ref_inv
      obtain ⟨ks, ha, hk, hv⟩ := R.ob' hm ea
      split at h
      · rename_i key hkey
        split at h
        · rename_i hz
          cases h
          obtain ⟨b, rfl, hb⟩ := keysW_VR r2 hkey
          obtain rfl : ov = Value.ref a := ro
          have hlen : ks.length = kvs.length := by have := congrArg List.length hk; simpa using this
          refine d_setItem (by omega) I (.t ha hb (by rw [hlen]; exact hz)) ri rv fun s' I' => ⟨_, I', q φ _ (R.write ea ha (by intro _ e; cases e) (by intro _ _ e; cases e) ?_) .refl (.write ha (by intro _ e; cases e) (by intro _ _ e; cases e))⟩
          obtain ⟨p1, p2⟩ := put_rel (key := key) r3 hk hv
          exact ⟨_, upd_same, p1, p2.mono .refl (.write ha (by intro _ e; cases e) (by intro _ _ e; cases e))⟩
        · cases h
      · cases h
    · cases h
  · cases h

/-! ### slices -/
theorem cut_rel {vs : List V} {ws : List W} (r : VRs K φ H vs ws) (lo hi : Option Int) : VRs K φ H (cutV vs lo hi) (cut ws lo hi) := by
  unfold cutV cut
  rw [r.length]
  exact (r.drop _).take _
def relSl (K : Fr) (mg : Mg) (f : OpS) : V → Option Int → Option Int → Hp → VK → Prop := fun x lo hi H Q => ∃ φ M w, Rel K mg φ M H ∧ VR K φ H x w ∧ Res K mg (VR K) φ H (R.of (f w lo hi M)) Q E0
theorem sr_sl : SlR X (relSl X.K X.mg opSl) := by
  intro pins s σ H x v vl vu lo hi sl Q I rx hs pl pu ⟨φ, M, a, R, r1, h⟩
  unfold opSl at h
  split at h
  · split at h
    · rename_i ws hm
      obtain ⟨q, vs, rfl, eq, hq, rvs⟩ := r1.lst R hm
      exact sl_list pins s σ H _ v vl vu lo hi sl Q I rx hs pl pu ⟨q, vs, rfl, .of hq, fun p hp => h.ofL R (cut_rel rvs lo hi) p hp⟩
    · exact h.elim
  · rename_i z
    have ok := r1.str_ok
    obtain rfl := r1.str_inv
    split at h
    · rename_i hz
      refine sl_str pins s σ H _ v vl vu lo hi sl Q I rx hs pl pu ⟨z, rfl, hz, h.ofS R ?_⟩
      unfold PyData.strOk at ok ⊢
      rw [← Array.all_toList] at ok ⊢
      refine List.all_eq_true.mpr fun c hc => List.all_eq_true.mp ok c ?_
      unfold cut at hc
      exact List.mem_of_mem_drop (List.mem_of_mem_take (by simpa using hc))
    · exact h.elim
  · split at h
    · rename_i ws h1
      obtain ⟨q, vs, rfl, eq, rvs⟩ := r1.items h1
      refine sl_tupA pins s σ H _ v vl vu lo hi sl Q I rx hs pl pu ⟨q, vs, rfl, .of eq, fun hw => ?_, fun _ p hp => h.ofT R (cut_rel rvs lo hi) p hp⟩
      refine h.ofV R (VR.mkTup eq ?_)
      have := cut_rel rvs lo hi
      unfold cutV at this
      rw [hw.1, hw.2] at this
      simpa using this
    · exact h.elim
variable {Wx : WX} {e a b c : Expr} {m ma mb : EM} {lo hi : Option Expr} {ml mh : PM} {pos p2 : Pos}
def tP (K : Fr) (mg : Mg) (Wx : WX) (m : PM) : TO := fun σ H Q => ∃ φ M L, Rel K mg φ M H ∧ LR K φ H σ L ∧ Res K mg (fun _ _ a b => a = b) φ H (m L M) Q (fun c d H' => Wx c d σ H')
theorem _root_.L2.PO.imp {X : Cx} {e : Option Expr} {t t' : TO} (h : PO X e t) (i : ∀ σ H Q, t' σ H Q → t σ H Q) : PO X e t' := ⟨fun pins s σ H Q I q => h.run pins s σ H Q I (i σ H Q q)⟩
theorem mp_none : PO X none (tP X.K X.mg Wx pNone) := po_none.imp fun σ H Q h => by
  obtain ⟨φ, M, L, R, l, h⟩ := h
  exact Res.here h R rfl
theorem mp_some (he : ME X Wx e m) : PO X (some e) (tP X.K X.mg Wx (pSome m)) := (po_some he).imp fun σ H Q h => by
  obtain ⟨φ, M, L, R, l, h⟩ := h
  refine ⟨φ, M, L, R, l, (Res.seq h).imp (fun v H1 ⟨φ1, M1, w, R1, r1, e1, t1, h1⟩ => ?_) fun _ _ _ z => z⟩
  split at h1
  · exact ⟨_, r1.int_inv, Res.here h1 R1 rfl⟩
  · exact h1.elim
theorem me_sl (ha : ME X Wx a ma) (hl : PO X lo (tP X.K X.mg Wx ml)) (hh : PO X hi (tP X.K X.mg Wx mh)) : ME X Wx (.Subscript a (.Slice lo hi none p2) pos) (eSl opSl ma ml mh) := (pe_slice sr_sl ha hl hh).imp fun σ H Q h => by
  obtain ⟨φ, M, L, R, l, h⟩ := h
  refine ⟨φ, M, L, R, l, (Res.seq h).imp (fun v H1 ⟨φ1, M1, w, R1, r1, e1, t1, h1⟩ => ?_) fun _ _ _ z => z⟩
  have l1 := l.mono e1 t1
  refine ⟨φ1, M1, L, R1, l1, (Res.seq h1).imp (fun v2 H2 ⟨φ2, M2, w2, R2, r2, e2, t2, h2⟩ => ?_) fun _ _ _ z => z⟩
  obtain rfl : v2 = w2 := r2
  have l2 := l1.mono e2 t2
  refine ⟨φ2, M2, L, R2, l2, (Res.seq h2).imp (fun v3 H3 ⟨φ3, M3, w3, R3, r3, e3, t3, h3⟩ => ?_) fun _ _ _ z => z⟩
  obtain rfl : v3 = w3 := r3
  exact ⟨φ3, M3, w, R3, r1.mono (e2.trans e3) (t2.trans t3), h3.of0⟩

/-! ### built-ins -/
theorem cr_len : CallR X (.builtin "len") (relN X.K X.mg bLen) := by
  intro pins s σ H xs us Q I r ⟨φ, M, ws, R, rs, h⟩
  unfold bLen at h
  split at h
  · cases rs with | cons r1 rn => cases rn with | nil =>
    split at h
    · rename_i ws hm
      obtain ⟨q, vs, rfl, eq, hq, rvs⟩ := r1.lst R hm
      exact call_len_seq pins s σ H _ us Q I r ⟨q, vs, rfl, .inl (.of hq), by rw [rvs.length]; exact h.ofI R⟩
    · rename_i kvs hm
      obtain ⟨q, rfl, eq⟩ := r1.ref_inv
      obtain ⟨ks, ha, hk, hv⟩ := R.ob' hm eq
      have hlen : ks.length = kvs.length := by have := congrArg List.length hk; simpa using this
      exact call_lenD pins s σ H _ us Q I r ⟨q, ks, rfl, ha, by rw [hlen]; exact h.ofI R⟩
    · rename_i kvs hm
      obtain ⟨q, rfl, eq⟩ := r1.ref_inv
      obtain ⟨ks, ha, hk, hv⟩ := R.ob' hm eq
      have hlen : ks.length = kvs.length := by have := congrArg List.length hk; simpa using this
      exact call_len_dT pins s σ H _ us Q I r ⟨q, ks, rfl, ha, by rw [hlen]; exact h.ofI R⟩
    · exact h.elim
  · cases rs with | cons r1 rn => cases rn with | nil =>
    obtain ⟨q, vs, rfl, sq, rvs⟩ := r1.rol_inv
    have hl : vs.length = _ := (VRs.ofD (φ := φ) rvs).length
    rw [List.length_map] at hl
    exact call_len_seq pins s σ H _ us Q I r ⟨q, vs, rfl, .inl sq, by rw [hl]; exact h.ofI R⟩
  · cases rs with | cons r1 rn => cases rn with | nil =>
    obtain rfl := r1.str_inv
    split at h
    · rename_i hz
      exact call_len_str pins s σ H _ us Q I r ⟨_, rfl, hz, h.ofI R⟩
    · exact h.elim
  · rename_i w _ _ _
    cases rs with | cons r1 rn => cases rn with | nil =>
    cases hi : w.items with
    | none => rw [hi] at h; exact h.elim
    | some ws =>
      rw [hi] at h
      obtain ⟨q, vs, rfl, eq, rvs⟩ := r1.items hi
      exact call_len_seq pins s σ H _ us Q I r ⟨q, vs, rfl, .inr (.of eq), by rw [rvs.length]; exact h.ofI R⟩
  · exact h.elim
theorem cr_int : CallR X (.type "int") (relN X.K X.mg bInt) := by
  intro pins s σ H xs us Q I r ⟨φ, M, ws, R, rs, h⟩
  unfold bInt at h
  split at h
  · cases rs with | cons r1 rn => cases rn with | nil =>
    obtain rfl := r1.int_inv
    exact call_int1 pins s σ H _ us Q I r (.inl ⟨_, rfl, h.ofI R⟩)
  · cases rs with | cons r1 rn => cases rn with | nil =>
    obtain rfl := r1.bool_inv
    exact call_int1 pins s σ H _ us Q I r (.inr ⟨_, rfl, h.ofI R⟩)
  · exact h.elim
theorem cr_tuple : CallR X (.type "tuple") (relN X.K X.mg bTuple) := by
  intro pins s σ H xs us Q I r ⟨φ, M, ws, R, rs, h⟩
  unfold bTuple at h
  split at h
  · cases rs with | cons r1 rn => cases rn with | nil =>
    split at h
    · rename_i ws hm
      obtain ⟨q, vs, rfl, eq, hq, rvs⟩ := r1.lst R hm
      exact call_tuple_of pins s σ H _ us Q I r ⟨q, vs, rfl, .inl ⟨.of hq, fun l hl => h.ofT R rvs l hl⟩⟩
    · exact h.elim
  · rename_i w _
    cases rs with | cons r1 rn => cases rn with | nil =>
    cases hi : w.items with
    | none => rw [hi] at h; exact h.elim
    | some ws =>
      rw [hi] at h
      obtain ⟨q, vs, rfl, eq, rvs⟩ := r1.items hi
      exact call_tuple_of pins s σ H _ us Q I r ⟨q, vs, rfl, .inr ⟨.of eq, h.ofV R (VR.mkTup eq rvs)⟩⟩
  · exact h.elim
theorem cr_list : CallR X (.type "list") (relN X.K X.mg bList) := by
  intro pins s σ H xs us Q I r ⟨φ, M, ws, R, rs, h⟩
  unfold bList at h
  split at h
  · cases rs with | cons r1 rn => cases rn with | nil =>
    split at h
    · rename_i ws hm
      obtain ⟨q, vs, rfl, eq, hq, rvs⟩ := r1.lst R hm
      exact call_list_of pins s σ H _ us Q I r ⟨q, vs, rfl, .inl (.of hq), fun l hl => h.ofL R rvs l hl⟩
    · exact h.elim
  · rename_i w _
    cases rs with | cons r1 rn => cases rn with | nil =>
    cases hi : w.items with
    | none => rw [hi] at h; exact h.elim
    | some ws =>
      rw [hi] at h
      obtain ⟨q, vs, rfl, eq, rvs⟩ := r1.items hi
      exact call_list_of pins s σ H _ us Q I r ⟨q, vs, rfl, .inr (.of eq), fun l hl => h.ofL R rvs l hl⟩
  · exact h.elim
theorem cr_repr : CallR X (.builtin "repr") (relN X.K X.mg bReprB) := by
  intro pins s σ H xs us Q I r ⟨φ, M, ws, R, rs, h⟩
  unfold bReprB at h
  split at h
  · rename_i b
    cases rs with | cons r1 rn => cases rn with | nil =>
    obtain rfl := r1.bool_inv
    obtain ⟨u, rfl, rfl⟩ := vals1 r
    refine PySem.P.repr_of_bool ⟨.str _, H, I.tok _, ⟨_, rfl⟩, ?_⟩
    have q := h.ofS R (by cases b <;> decide +kernel)
    cases b <;> exact q
  · exact h.elim
theorem mt_app : MtR X "list.append" (fun x xs H Q => relN X.K X.mg mAppend (x :: xs) H Q) := by
  intro pins s σ H x xs v us Q I rx rv ⟨φ, M, ws, R, rs, h⟩
  unfold mAppend at h
  split at h
  · cases rs with | cons r1 rn => cases rn with | cons r2 rn => cases rn with | nil =>
    split at h
    · rename_i ws hm
      obtain ⟨q, vs, rfl, eq, hq, rvs⟩ := r1.lst R hm
      split at h
      · rename_i hz
        exact mt_append pins s σ H _ _ v us Q I rx rv ⟨q, vs, _, rfl, rfl, hq, by rw [rvs.length]; exact hz, h φ _ _ (R.lst eq hq (rvs.append (.cons r2 .nil))) (.d .non) .refl (.lst hq)⟩
      · exact h.elim
    · exact h.elim
  · exact h.elim
theorem mt_ext : MtR X "list.extend" (fun x xs H Q => relN X.K X.mg mExtend (x :: xs) H Q) := by
  intro pins s σ H x xs v us Q I rx rv ⟨φ, M, ws, R, rs, h⟩
  unfold mExtend at h
  split at h
  · cases rs with | cons r1 rn => cases rn with | cons r2 rn => cases rn with | nil =>
    split at h
    · rename_i ws zs hm hm2
      obtain ⟨q, vs, rfl, eq, hq, rvs⟩ := r1.lst R hm
      obtain ⟨q2, vs2, rfl, eq2, hq2, rvs2⟩ := r2.lst R hm2
      split at h
      · rename_i hz
        exact mt_extend pins s σ H _ _ v us Q I rx rv ⟨q, q2, vs, vs2, rfl, rfl, hq, hq2, by rw [rvs.length, rvs2.length]; exact hz, h φ _ _ (R.lst eq hq (rvs.append rvs2)) (.d .non) .refl (.lst hq)⟩
      · exact h.elim
    · exact h.elim
  · exact h.elim
/-- o.m(e, ..), o a list -/
theorem me_metL {name : Str} {id : String} {o : Expr} {es : List Expr} {f : OpN} {mo : EM} {mr : AM} {apos cpos : Pos} (slot : Slot "list" name id) (hty : typeOf (.builtin id) = pure (.type "method_descriptor")) (hm : MtR X id (fun x xs H Q => relN X.K X.mg f (x :: xs) H Q)) (ho : ME X Wx o mo) (ha : MA X Wx (e :: es) mr)
    (hbase : attributeBase o name X.env (eval o X.env) = eval o X.env := by rfl)
    (hfew : ((backTo cpos (starEach (e :: es) X.env)).all (fun x => !x.1) && (backToKw cpos (keywordEach [] X.env)).all (fun x => x.1.isSome)
      && decide ((e :: es).length + ([] : List Keyword).length + (if ([] : List Keyword).isEmpty then 0 else 1) < 30)) = true := by rfl)
    (hline : (apos.endLine == cpos.line) = true := by rfl) (hs : starEach (e :: es) X.env = (false, eval e X.env) :: starEach es X.env := by rfl) (hplain : (backTo cpos (starEach es X.env)).any (·.1) = false := by rfl) :
    ME X Wx (.Call (.Attribute o name apos) (e :: es) [] cpos) (eMetL f mo mr) := (pe_bm PySem.F.plainAttrs_list slot hty hm ho ha hbase hfew hline hs hplain).imp fun σ H Q h => by
  obtain ⟨φ, M, L, R, l, h⟩ := h
  refine ⟨φ, M, L, R, l, (Res.seq h).imp (fun v H1 ⟨φ1, M1, w, R1, r1, e1, t1, h1⟩ => ?_) fun _ _ _ z => z⟩
  split at h1
  · rename_i hl
    unfold isLst at hl
    split at hl
    · split at hl
      · rename_i ws hm
        obtain ⟨q, vs, rfl, eq, hq, rvs⟩ := r1.lst R1 hm
        refine ⟨.inl ⟨rfl, vs, .of hq⟩, φ1, M1, L, R1, l.mono e1 t1, (Res.seq h1).imp (fun vs2 H2 ⟨φ2, M2, ws2, R2, r2, e2, t2, h2⟩ => ?_) fun _ _ _ z => z⟩
        exact ⟨φ2, M2, _, R2, .cons (r1.mono e2 t2) r2, h2.of0⟩
      · cases hl
    · cases hl
  · exact h1.elim
theorem me_append {o : Expr} {mo : EM} {apos cpos : Pos} (ho : ME X Wx o mo) (ha : ME X Wx e m) (h1 : starEach [e] X.env = (false, eval e X.env) :: starEach [] X.env := by rfl)
    (hbase : attributeBase o "append" X.env (eval o X.env) = eval o X.env := by rfl)
    (hfew : ((backTo cpos (starEach (e :: []) X.env)).all (fun x => !x.1) && (backToKw cpos (keywordEach [] X.env)).all (fun x => x.1.isSome)
      && decide ((e :: []).length + ([] : List Keyword).length + (if ([] : List Keyword).isEmpty then 0 else 1) < 30)) = true := by rfl)
    (hline : (apos.endLine == cpos.line) = true := by rfl) (hplain : (backTo cpos (starEach [] X.env)).any (·.1) = false := by rfl) :
    ME X Wx (.Call (.Attribute o "append" apos) [e] [] cpos) (eMetL mAppend mo (aCons m aNil)) := me_metL PySem.F.slot_list_append PySem.F.type_list_append mt_app ho (ma_cons ha ma_nil h1) hbase hfew hline h1 hplain
theorem me_extend {o : Expr} {mo : EM} {apos cpos : Pos} (ho : ME X Wx o mo) (ha : ME X Wx e m) (h1 : starEach [e] X.env = (false, eval e X.env) :: starEach [] X.env := by rfl)
    (hbase : attributeBase o "extend" X.env (eval o X.env) = eval o X.env := by rfl)
    (hfew : ((backTo cpos (starEach (e :: []) X.env)).all (fun x => !x.1) && (backToKw cpos (keywordEach [] X.env)).all (fun x => x.1.isSome)
      && decide ((e :: []).length + ([] : List Keyword).length + (if ([] : List Keyword).isEmpty then 0 else 1) < 30)) = true := by rfl)
    (hline : (apos.endLine == cpos.line) = true := by rfl) (hplain : (backTo cpos (starEach [] X.env)).any (·.1) = false := by rfl) :
    ME X Wx (.Call (.Attribute o "extend" apos) [e] [] cpos) (eMetL mExtend mo (aCons m aNil)) := me_metL PySem.F.slot_list_extend PySem.F.type_list_extend mt_ext ho (ma_cons ha ma_nil h1) hbase hfew hline h1 hplain

/-! ### isinstance -/
theorem tyW_ok (R : Rel K mg φ M H) {v : V} {w : W} {t : String} (r : VR K φ H v w) (h : tyW M w = some t) : TyX K H v (.type t) ∧ t ∈ ["NoneType", "bool", "int", "str", "list", "tuple", "dict"] := by
  unfold tyW at h
  split at h
  · cases h; obtain rfl := r.none_inv; exact ⟨.base .non, by simp⟩
  · cases h; obtain rfl := r.bool_inv; exact ⟨.base (.bl _), by simp⟩
  · cases h; obtain rfl := r.int_inv; exact ⟨.base (.int _), by simp⟩
  · cases h; obtain rfl := r.str_inv; exact ⟨.base (.str _), by simp⟩
  · cases h
    cases r with | d r => cases r with | rol s r =>
    rcases s with ⟨o, s⟩ | ⟨o, its, n, s1, s2, _⟩
    · exact ⟨.base (.frz s), by simp⟩
    · exact ⟨.kList s1 s2, by simp⟩
  · cases h
    cases r with | d r => cases r with | tup s r => exact ⟨.base (.tup s), by simp⟩
  · cases h
  · cases h
    cases r with | mix s r => exact ⟨.base (.tup s), by simp⟩
  · obtain ⟨q, rfl, eq⟩ := r.ref_inv
    split at h
    · rename_i hm; cases h; obtain ⟨vs, hv, _⟩ := R.ob' hm eq; exact ⟨.base (.lst hv), by simp⟩
    · rename_i hm; cases h; obtain ⟨vs, hv, _⟩ := R.ob' hm eq; exact ⟨.base (.dK hv), by simp⟩
    · rename_i hm; cases h; obtain ⟨vs, hv, _⟩ := R.ob' hm eq; exact ⟨.base (.dT hv), by simp⟩
    · cases h
def kitOk (T : String) : Bool := ["NoneType", "bool", "int", "str", "list", "tuple", "dict"].all fun t => kitB t T == some (t == T || (t == "bool" && T == "int"))
theorem me_isI {T : String} {x : Str} {p pT : Pos} (hg : Gl X "isinstance") (hm : X.mg "isinstance" = none) (ha : ME X Wx a ma) (gT : Gl X x) (mT : X.mg x = none) (kit : kitOk T = true := by decide +kernel) (hT : bootBuiltins x = some (.type T) := by decide +kernel) (nT : x ≠ "__name__" := by decide) (dT : (x == ("__debug__" : Str)) = false := by decide)
    (hv : bootBuiltins "isinstance" = some (.builtin "isinstance") := by decide +kernel)
    (he : starEach [a, .Name x pT] X.env = (false, eval a X.env) :: starEach [.Name x pT] X.env := by rfl) (he2 : starEach [.Name x pT] X.env = (false, eval (.Name x pT) X.env) :: starEach [] X.env := by rfl) (hpl : (backTo pos (starEach [.Name x pT] X.env)).any (·.1) = false := by rfl) :
    ME X Wx (.Call (.Name "isinstance" p) [a, .Name x pT] [] pos) (eOp1 (isI T) ma) :=
  (pe_callB call_isi hg hm hv (pa_cons ha (pa_cons (pe_bltn (v := .ty T) gT mT hT rfl nT dT) pa_nil he2) he) (by decide) (by decide) he hpl).imp fun σ H Q h => by
    obtain ⟨φ, M, L, R, l, h⟩ := h
    refine ⟨φ, M, L, R, l, (Res.seq h).imp (fun v H1 ⟨φ1, M1, w, R1, r1, e1, t1, h1⟩ => ?_) fun _ _ _ z => z⟩
    unfold isI at h1
    cases ht : tyW M1 w with
    | none => rw [ht] at h1; exact h1.elim
    | some t =>
      rw [ht] at h1
      obtain ⟨ty, mem⟩ := tyW_ok R1 r1 ht
      refine ⟨v, .ty T, .type t, .type T, _, rfl, .ty T, ty, kit_ty ?_, h1.ofB R1⟩
      have := List.all_eq_true.mp kit t mem
      simpa using this
end
end Mi
end

section
set_option maxHeartbeats 4000000
/-! MiT: defs by name, the law's end. -/
namespace Mi
open PySem PySem.Spec PyProof.Rows L2

/-- the def x of the text, its parameters ps: at level k it does what F says -/
def FnP (P : Program) (w : World) (K : Fr) (mg : Mg) (base : Heap) (x : Str) (ps : List Str) (k : Nat) (F : Fn) : Prop :=
  ∃ f fd, FnOk P w K mg base (L2.CX P w) k f fd ps (SPf K mg F) ∧ mg x = some (.ref f) ∧ PySem.W.keepIn K (.ref f) = true ∧ (∀ us : List Value, us.length = ps.length → bindArgs fd ⟨us, []⟩ = pure (ps.zip us)) ∧ ∃ oc od osl, K.lookup f = some ⟨oc, od, .func fd, osl⟩
def FnT (P : Program) (w : World) (K : Fr) (mg : Mg) (base : Heap) (x : Str) (k : Nat) (F : Fn) : Prop := ∃ ps, FnP P w K mg base x ps k F
/-- the text's def x, its statement st -/
def Dx (K : Fr) (mg : Mg) (x : Str) (st : Stmt) : Prop := ∃ f fd, Fun K x x st f fd ∧ mg x = some (.ref f)
abbrev BindsOk (x : Str) (st : Stmt) (ps : List Str) : Prop := ∀ (kV doc pm : Value) (an : Option Addr) (cdv ct : Value) (us : List Value), us.length = ps.length → bindArgs (PySem.W.fnOf x x (defArgs st) (defBody st) (defScope st) .none kV doc pm an cdv ct) ⟨us, []⟩ = pure (ps.zip us)
section
variable {P : Program} {w : World} {K : Fr} {mg : Mg} {base : Heap} {x : Str} {st : Stmt} {N ps : List Str} {k : Nat} {body : SM} {F : Fn}
theorem binds_of {f : Addr} {fd : FuncData} (Fu : Fun K x x st f fd) (hbd : BindsOk x st ps) : ∀ us : List Value, us.length = ps.length → bindArgs fd ⟨us, []⟩ = pure (ps.zip us) := by
  obtain ⟨oc, od, kV, doc, pm, an, cdv, ct, osl, rfl, lk, hcd⟩ := Fu.ex
  exact hbd kV doc pm an cdv ct
theorem look_of {f : Addr} {fd : FuncData} (Fu : Fun K x x st f fd) : ∃ oc od osl, K.lookup f = some ⟨oc, od, .func fd, osl⟩ := by
  obtain ⟨oc, od, kV, doc, pm, an, cdv, ct, osl, rfl, lk, hcd⟩ := Fu.ex
  exact ⟨_, _, _, lk⟩
theorem FnP.mk (D : Dx K mg x st) (S : FnScope N ps (defScope st)) (hbd : BindsOk x st ps)
    (hb : ∀ (f : Addr) (cdv : Value) (A : Around) (outer : List Env) (s : Shared) (H : Hp) (E : XK), Room k (A.deeper (envOfC x (defScope st) s.heap.objs.size f cdv)) →
      MSs (cxOf (L2.CX P w) P w K mg base N x (defScope st) f cdv A outer s H E) (fun cls d _ H => E cls d H) (defBody st) body) :
    FnP P w K mg base x ps (k + 1) (fn ps.length N.length body) := by
  obtain ⟨f, fd, Fu, hm⟩ := D
  exact ⟨f, fd, fnOk_fn Fu S (hb f), hm, Fu.kp, binds_of Fu hbd, look_of Fu⟩
theorem FnT.mk (D : Dx K mg x st) (S : FnScope N ps (defScope st)) (hbd : BindsOk x st ps)
    (hb : ∀ (f : Addr) (cdv : Value) (A : Around) (outer : List Env) (s : Shared) (H : Hp) (E : XK), Room k (A.deeper (envOfC x (defScope st) s.heap.objs.size f cdv)) →
      MSs (cxOf (L2.CX P w) P w K mg base N x (defScope st) f cdv A outer s H E) (fun cls d _ H => E cls d H) (defBody st) body) :
    FnT P w K mg base x (k + 1) (fn ps.length N.length body) := ⟨ps, .mk D S hbd hb⟩
theorem FnT.bad (D : Dx K mg x st) (hbd : BindsOk x st ps) : FnT P w K mg base x k (fun _ _ => .bad) := by
  obtain ⟨f, fd, Fu, hm⟩ := D
  exact ⟨ps, f, fd, fnOk_bad, hm, Fu.kp, binds_of Fu hbd, look_of Fu⟩
theorem FnT.mono {j : Nat} (T : FnT P w K mg base x j F) (h : j ≤ k) : FnT P w K mg base x k F := by
  obtain ⟨ps, f, fd, h1, h2⟩ := T
  exact ⟨ps, f, fd, h1.mono h, h2⟩
/-- by the head's facts -/
theorem Dx.of {h : Heap} {fa : List He.Fa} {fn : List He.FnD} (KI : K.In h) (G : h.Ns mainGlobals mg) (c : He.SaysE fa fn K) (i : Nat) {d : He.FnD} (hd : fn[i]? = some d) (hf : fa[2 * i]? = some (.glo x)) (hk : fa[2 * i + 1]? = some (.keep x))
    (e : d = ⟨(x, none), x, x, defArgs st, defBody st, defScope st⟩) : Dx K mg x st := by
  subst e
  obtain ⟨oc, od, osl, kV, doc, pm, an, cdv, ct, lk, hcd⟩ := c.def_ i hd
  exact ⟨_, _, fun_mk lk hcd (c.fact (2 * i + 1) hk), He.glo_ok KI G (c.fact (2 * i) hf)⟩
end
section
variable {X : Cx} {Wx : WX} {e a b c : Expr} {es : List Expr} {m ma mb : EM} {pos p : Pos} {k j : Nat}
theorem me_fn {x : Str} {F : Fn} {mr : AM} (T : FnT X.prog X.w X.K X.mg X.base x j F) (hr : Room k X.A) (hg : Gl X x) (tk : Takes X Wx) (ha : MA X Wx (e :: es) mr) (hj : j ≤ k := by omega) (hdb : (x == ("__debug__" : Str)) = false := by decide)
    (he : starEach (e :: es) X.env = (false, eval e X.env) :: starEach es X.env := by rfl) (hpl : (backTo pos (starEach es X.env)).any (·.1) = false := by rfl) : ME X Wx (.Call (.Name x p) (e :: es) [] pos) (eCall F mr) := by
  obtain ⟨ps, f, fd, h1, h2, h3, h4, _⟩ := T
  exact me_call h1 (hr.mono hj) hg h2 h3 (.all h4) tk ha hdb he hpl
theorem mt_chain {op op' : CmpOp} {f g : Op2} {mc : EM} (ho : OpR X (compareOp op) (rel2 X.K X.mg f)) (ho' : OpR X (compareOp op') (rel2 X.K X.mg g)) (ha : ME X Wx a ma) (hb : ME X Wx b mb) (hc : ME X Wx c mc)
    (hm : lastMarks [op, op'] [b, c] = false := by with_unfolding_all rfl) : MT X Wx (.Compare a [op, op'] [b, c] pos) (tVal (eChain f g ma mb mc)) := (pt_chain ho ho' ha hb hc hm).imp fun σ H Q h => by
  obtain ⟨φ, M, L, R, l, h⟩ := h
  refine tChain_of (Q := fun x H => ∃ k, x = .bl k ∧ Q k H) ⟨φ, M, L, R, l, (Res.seq h).imp (fun v H1 ⟨φ1, M1, w, R1, r1, e1, t1, h1⟩ => ?_) fun _ _ _ z => z⟩
  cases hb : asBool w with
  | none => simp only [hb] at h1; exact h1.elim
  | some k => simp only [hb] at h1; exact ⟨k, asBool_VR r1 hb, Res.here h1 R1 rfl⟩
end
/-- the law's end: the def law gives True for every script -/
theorem law_end {l : PySem.W.OpenLaw} {k : Nat} {q : Program} {loose : List Str} {XP : (Str → Option Value) → Heap → Prop} {YP : World → Heap → Prop} {d : DefRec} {F : Fn}
    (hn : l.most = some 63) (hdf : d.params.defaults = []) (hr : Room k callerA) (hd : d.name = ("law" : Str))
    (T : ∀ (w : World) (mg : Str → Option Value) (h : Heap), YP w h → h.Ns mainGlobals mg →
      ∃ (K : Fr), K.In h ∧ ∀ base : Heap, K.In base → base.Ns mainGlobals mg → FnP l.prog w K mg base "law" ["script"] k F)
    (hF : ∀ ns : List Int, ns.length ≤ 63 → ∃ M', F [.d (.list (ns.map .int))] [] = .ok (.bool true) M') :
    PySem.W.WalkO q loose XP YP l.row.toRowW d [] (fun f vs => PySem.call f vs) := by
  refine L2.walk_ofE (n := 63) (k := k) (x := "script") hn (by decide) hdf hr (CX := fun outer H s E e s' => ∃ w, L2.CX l.prog w outer H s E e s') ?_ ?_
  · intro w mg fa h Y G hmg
    rw [hd] at hmg
    obtain ⟨K, KI, T⟩ := T w mg h Y G
    obtain ⟨f0, fd, _, hm, _, hb, oc, od, osl, lk⟩ := T h KI G
    rw [hmg] at hm
    cases hm
    refine ⟨K, fd, SPf K mg F, KI, fun s u => .of_eq (hb [u] rfl), fun H a ns hl hO hS => ?_, fun base KB GB => ?_⟩
    · obtain ⟨M', hF⟩ := hF ns hl
      have e0 : Rel K mg [] [] H := ⟨rfl, fun i j a h => by simp at h, fun i a o h => by simp at h⟩
      have dints : ∀ ns : List Int, DRs K H (ns.map V.int) (ns.map .int) := fun ns => by
        induction ns with
        | nil => exact .nil
        | cons n ns ih => exact .cons (.int n) ih
      refine ⟨[], [], [.d (.list (ns.map .int))], e0, .cons (.d (.rol ?_ (dints ns))) .nil, ?_⟩
      · rcases hS with (hS | hS) | hS
        · rcases hO a with q | ⟨o, xs, q⟩
          · rw [q] at hS; cases hS
          · rw [q] at hS; cases hS
        · exact .inl hS
        · exact .inr hS
      · rw [hF]
        intro φ' H' v R' r _ _
        exact r.bool_inv
    · obtain ⟨f1, fd1, hk, hm1, _, _, oc1, od1, osl1, lk1⟩ := T base KB GB
      rw [hmg] at hm1
      cases hm1
      rw [lk] at lk1
      cases lk1
      exact ⟨hk.len, fun A outer s H args us vs Q E r e0 b v sp => codeAny_mono (hk.run A outer s H args us vs Q E r e0 b v sp) fun r s' q => by
        cases r with
        | ok fl => cases fl <;> exact q
        | error e => exact ⟨w, q⟩⟩
  · intro H s e s' ⟨w, z⟩
    obtain ⟨_, _, _, _, _, _, _, _, _, _, _, _, z⟩ := z
    exact z
end Mi
end

section
/-! MiO2: dicts made, sorted, least, greatest, sums. -/
namespace Mi
open PySem (PyData Str)
def merge {κ : Type} [DecidableEq κ] (kvs more : List (κ × W)) : List (κ × W) := more.foldl (fun acc kv => put acc kv.1 kv.2) kvs
def pairW (w : W) : Option (Key × W) := match w.items with
  | some [k, v] => (keyW k).map fun k => (k, v)
  | _ => none
def intW : W → Option Int
  | .d (.int i) => some i
  | _ => none
def sortI (ns : List Int) : List Int := ns.mergeSort fun a b => decide (a ≤ b)
def intK : Key → Option Int
  | .inl i => some i
  | .inr _ => none
/-- dict(..): of a list of pairs, of a dict -/
def bDict : OpN := fun xs M => match xs with
  | [.ref p] => (match M[p]? with
    | some (.lst ws) => (ws.mapM pairW).map fun kvs => (.ref M.length, M ++ [.dk (merge [] kvs)])
    | some (.dk kvs) => some (.ref M.length, M ++ [.dk kvs])
    | _ => none)
  | _ => none
def bSorted : OpN := fun xs M => match xs with
  | [.ref p] => (match M[p]? with
    | some (.lst ws) => (ws.mapM intW).map fun ns => (.ref M.length, M ++ [.lst ((sortI ns).map W.int)])
    | some (.dk kvs) => if kvs.length < 64 then ((kvs.map (·.1)).mapM intK).map fun ns => (.ref M.length, M ++ [.lst ((sortI ns).map W.int)]) else none
    | _ => none)
  | _ => none
def minI : List Int → Option Int
  | [] => none
  | x :: xs => some (xs.foldl min x)
def maxI : List Int → Option Int
  | [] => none
  | x :: xs => some (xs.foldl max x)
def bMin : OpN := fun xs M => match xs with
  | [.d (.int i), .d (.int j)] => some (.int (min i j), M)
  | [.ref p] => (match M[p]? with
    | some (.lst ws) => (ws.mapM intW).bind fun ns => (minI ns).map fun m => (.int m, M)
    | _ => none)
  | _ => none
def bMax : OpN := fun xs M => match xs with
  | [.d (.int i), .d (.int j)] => some (.int (max i j), M)
  | [.ref p] => (match M[p]? with
    | some (.lst ws) => (ws.mapM intW).bind fun ns => (maxI ns).map fun m => (.int m, M)
    | _ => none)
  | _ => none
def bSum : OpN := fun xs M => match xs with
  | [.ref p] => (match M[p]? with
    | some (.lst ws) => (ws.mapM intW).map fun ns => (.int ns.sum, M)
    | _ => none)
  | _ => none
/-- {} for keys that are numbers and texts; for tuples -/
def eNewK : EM := fun _ h => .ok (.ref h.length) (h ++ [.dk []])
def eNewT : EM := fun _ h => .ok (.ref h.length) (h ++ [.dt []])
/-- the pairs of a display, from the left -/
def evPairs : List (EM × EM) → Loc → Hh → R (List (W × W))
  | [], _, h => .ok [] h
  | (k, v) :: r, L, h => (k L h).bind fun x h => (v L h).bind fun y h => (evPairs r L h).bind fun ps h => .ok ((x, y) :: ps) h
/-- {k: v, ..} -/
def eDisp (ps : List (EM × EM)) : EM := fun L h => (evPairs ps L (h ++ [.dk []])).bind fun prs h2 => match h2[h.length]?, prs.mapM (fun p => (keyW p.1).map fun k => (k, p.2)) with
  | some (.dk []), some kvs => if kvs.length ≤ 15 then .ok (.ref h.length) (h2.set h.length (.dk (merge [] kvs))) else .bad
  | _, _ => .bad
end Mi
end

section
set_option maxHeartbeats 4000000
/-! MiP3: dicts made, sorted, least, greatest, sums. -/
namespace Mi
open PySem PySem.Spec PyProof.Rows L2
section
variable {X : Cx} {K : Fr} {mg : Mg} {φ : Phi} {M : Hh} {H : Hp} {Q : VK} {E : XK} {k : Nat}
theorem Res.ofK {kvs : List (Key × W)} {ks : List (Key × V)} (h : Res K mg (VR K) φ H (R.of (some (.ref M.length, M ++ [.dk kvs]))) Q E) (R : Rel K mg φ M H) (hk : ks.map (·.1) = kvs.map (·.1)) (hv : VRs K φ H (ks.map (·.2)) (kvs.map (·.2))) (p : Addr) (hp : H p = none) : Q (.ref p) (upd H p (.dK ks)) :=
  h (φ ++ [p]) _ _ (R.new hp ⟨ks, upd_same, hk, hv.mono .app (.laid hp)⟩) (.ref (by rw [← R.len]; simp)) .app (.laid hp)
theorem pairs_rel : ∀ {vs : List V} {ws : List W} {kvs : List (Key × W)}, VRs K φ H vs ws → ws.mapM pairW = some kvs → ∃ (ps : List Addr) (ks : List (Key × V)), vs = ps.map V.ref ∧ Paired (fun p kv => SqT K H p [kV kv.1, kv.2]) ps ks ∧ ks.map (·.1) = kvs.map (·.1) ∧ VRs K φ H (ks.map (·.2)) (kvs.map (·.2))
  | _, _, _, .nil, h => by cases h; exact ⟨[], [], rfl, .nil, rfl, .nil⟩
  | _, _, _, .cons r s, h => by
    obtain ⟨y, ys, h1, h2, rfl⟩ := mapM_cons_some h
    obtain ⟨ps, ks, rfl, hp, hk, hv⟩ := pairs_rel s h2
    unfold pairW at h1
    split at h1
    · rename_i kw vw hi
      obtain ⟨a, us, rfl, ha, rus⟩ := r.items hi
      cases rus with | cons r1 rn => cases rn with | cons r2 rn => cases rn with | nil =>
      cases hkw : keyW kw with
      | none => rw [hkw] at h1; cases h1
      | some key =>
        rw [hkw] at h1; cases h1
        obtain rfl := keyW_VR r1 hkw
        exact ⟨a :: ps, (key, _) :: ks, rfl, .cons (.of ha) hp, by simp [hk], .cons r2 hv⟩
    · cases h1
theorem merge_rel : ∀ {more : List (Key × V)} {mw : List (Key × W)} {ks : List (Key × V)} {kvs : List (Key × W)}, more.map (·.1) = mw.map (·.1) → VRs K φ H (more.map (·.2)) (mw.map (·.2)) → ks.map (·.1) = kvs.map (·.1) → VRs K φ H (ks.map (·.2)) (kvs.map (·.2)) →
    (mergeK ks more).map (·.1) = (merge kvs mw).map (·.1) ∧ VRs K φ H ((mergeK ks more).map (·.2)) ((merge kvs mw).map (·.2))
  | [], [], ks, kvs, _, _, hk, hv => ⟨hk, hv⟩
  | (k1, v) :: more, (k2, w) :: mw, ks, kvs, h1, h2, hk, hv => by
    simp only [List.map_cons, List.cons.injEq] at h1 h2
    obtain ⟨rfl, h1⟩ := h1
    cases h2 with
    | cons r h2 =>
      obtain ⟨a, b⟩ := put_rel (key := k1) r hk hv
      exact merge_rel (ks := putK ks k1 v) (kvs := put kvs k1 w) h1 h2 a b
  | [], _ :: _, _, _, h, _, _, _ => by simp at h
  | _ :: _, [], _, _, h, _, _, _ => by simp at h
theorem cr_dict (hc : X.calm = true) : CallR X (.type "dict") (relN X.K X.mg bDict) := by
  intro pins s σ H xs us Q I r ⟨φ, M, ws, R, rs, h⟩
  unfold bDict at h
  split at h
  · cases rs with | cons r1 rn => cases rn with | nil =>
    split at h
    · rename_i ws hm
      obtain ⟨q, vs, rfl, eq, hq, rvs⟩ := r1.lst R hm
      cases hp : ws.mapM pairW with
      | none => rw [hp] at h; exact h.elim
      | some kvs =>
        rw [hp] at h
        obtain ⟨ps, ks, rfl, hps, hk, hv⟩ := pairs_rel rvs hp
        obtain ⟨m1, m2⟩ := merge_rel (ks := []) (kvs := []) hk hv rfl .nil
        exact call_dictP hc pins s σ H _ us Q I r ⟨q, ps, ks, rfl, .of hq, hps, fun p hp => h.ofK R m1 m2 p hp⟩
    · rename_i kvs hm
      obtain ⟨q, rfl, eq⟩ := r1.ref_inv
      obtain ⟨ks, ha, hk, hv⟩ := R.ob' hm eq
      exact call_dictD pins s σ H _ us Q I r ⟨q, ks, rfl, .inl ha, fun p hp => h.ofK R hk hv p hp⟩
    · exact h.elim
  · exact h.elim
theorem ints_VR : ∀ {vs : List V} {ws : List W} {ns : List Int}, VRs K φ H vs ws → ws.mapM intW = some ns → vs = ns.map V.int
  | _, _, _, .nil, h => by cases h; rfl
  | _, _, _, .cons r s, h => by
    obtain ⟨y, ys, h1, h2, rfl⟩ := mapM_cons_some h
    rw [ints_VR s h2]
    unfold intW at h1
    split at h1
    · cases h1; rw [r.int_inv]; rfl
    · cases h1
theorem ints_rel : ∀ ns : List Int, VRs K φ H (ns.map V.int) (ns.map W.int)
  | [] => .nil
  | n :: ns => .cons (.d (.int n)) (ints_rel ns)
theorem sortI_eq {ns ys : List Int} (hp : ys.Perm ns) (hs : ys.Pairwise (· ≤ ·)) : ys = sortI ns := by
  refine List.Perm.eq_of_pairwise (le := (· ≤ ·)) (fun a b _ _ h1 h2 => Int.le_antisymm h1 h2) hs ?_ (hp.trans (List.mergeSort_perm ns _).symm)
  have := List.pairwise_mergeSort (le := fun a b : Int => decide (a ≤ b)) (fun a b c h1 h2 => by simp at h1 h2 ⊢; omega) (fun a b => by simp; omega) ns
  unfold sortI
  simpa using this
theorem keys_int : ∀ {ks : List Key} {ns : List Int}, ks.mapM intK = some ns → ks = ns.map Sum.inl
  | [], _, h => by cases h; rfl
  | k :: ks, _, h => by
    obtain ⟨y, ys, h1, h2, rfl⟩ := mapM_cons_some h
    rw [keys_int h2]
    cases k with
    | inl i => cases h1; rfl
    | inr x => cases h1
theorem cr_sort (hc : X.calm = true) : CallR X (.builtin "sorted") (relN X.K X.mg bSorted) := by
  intro pins s σ H xs us Q I r ⟨φ, M, ws, R, rs, h⟩
  unfold bSorted at h
  split at h
  · cases rs with | cons r1 rn => cases rn with | nil =>
    split at h
    · rename_i ws hm
      obtain ⟨q, vs, rfl, eq, hq, rvs⟩ := r1.lst R hm
      cases hp : ws.mapM intW with
      | none => rw [hp] at h; exact h.elim
      | some ns =>
        rw [hp] at h
        obtain rfl := ints_VR rvs hp
        refine cr_sortedI pins s σ H _ us Q I r ⟨q, ns, rfl, .of hq, fun ys p h1 h2 hp => ?_⟩
        rw [sortI_eq h1 h2]
        exact h.ofL R (ints_rel _) p hp
    · rename_i kvs hm
      obtain ⟨q, rfl, eq⟩ := r1.ref_inv
      obtain ⟨ks, ha, hk, hv⟩ := R.ob' hm eq
      split at h
      · rename_i hz
        cases hp : (kvs.map (·.1)).mapM intK with
        | none => rw [hp] at h; exact h.elim
        | some ns =>
          rw [hp] at h
          have e := keys_int hp
          refine call_sortedDI hc pins s σ H _ us Q I r ⟨q, ks, ns, rfl, .inl ha, hk.trans e, ?_, fun ys p h1 h2 hp => ?_⟩
          · have := congrArg List.length e; simp at this; omega
          · rw [sortI_eq h1 h2]
            exact h.ofL R (ints_rel _) p hp
      · exact h.elim
    · exact h.elim
  · exact h.elim
theorem foldl_min_le : ∀ (xs : List Int) (x : Int), xs.foldl min x ≤ x ∧ (∀ y ∈ xs, xs.foldl min x ≤ y) ∧ (xs.foldl min x = x ∨ xs.foldl min x ∈ xs)
  | [], x => ⟨Int.le_refl _, by simp, .inl rfl⟩
  | y :: ys, x => by
    obtain ⟨a, b, c⟩ := foldl_min_le ys (min x y)
    rw [List.foldl_cons]
    refine ⟨by omega, fun z hz => ?_, ?_⟩
    · rcases List.mem_cons.mp hz with rfl | hz
      · omega
      · exact b z hz
    · rcases c with c | c
      · rw [c]
        by_cases q : x ≤ y
        · exact .inl (by omega)
        · exact .inr (List.mem_cons.mpr (.inl (by omega)))
      · exact .inr (List.mem_cons_of_mem _ c)
theorem foldl_max_le : ∀ (xs : List Int) (x : Int), x ≤ xs.foldl max x ∧ (∀ y ∈ xs, y ≤ xs.foldl max x) ∧ (xs.foldl max x = x ∨ xs.foldl max x ∈ xs)
  | [], x => ⟨Int.le_refl _, by simp, .inl rfl⟩
  | y :: ys, x => by
    obtain ⟨a, b, c⟩ := foldl_max_le ys (max x y)
    rw [List.foldl_cons]
    refine ⟨by omega, fun z hz => ?_, ?_⟩
    · rcases List.mem_cons.mp hz with rfl | hz
      · omega
      · exact b z hz
    · rcases c with c | c
      · rw [c]
        by_cases q : y ≤ x
        · exact .inl (by omega)
        · exact .inr (List.mem_cons.mpr (.inl (by omega)))
      · exact .inr (List.mem_cons_of_mem _ c)
theorem cr_least (hc : X.calm = true) : CallR X (.builtin "min") (relN X.K X.mg bMin) := by
  intro pins s σ H xs us Q I r ⟨φ, M, ws, R, rs, h⟩
  unfold bMin at h
  split at h
  · cases rs with | cons r1 rn => cases rn with | cons r2 rn => cases rn with | nil =>
    obtain rfl := r1.int_inv; obtain rfl := r2.int_inv
    rename_i i j
    refine call_min2 hc pins s σ H _ us Q I r ⟨i, j, rfl, ?_⟩
    have e : (if j < i then j else i) = min i j := by split <;> omega
    rw [e]; exact h.ofI R
  · cases rs with | cons r1 rn => cases rn with | nil =>
    split at h
    · rename_i ws hm
      obtain ⟨q, vs, rfl, eq, hq, rvs⟩ := r1.lst R hm
      cases hp : ws.mapM intW with
      | none => rw [hp] at h; exact h.elim
      | some ns =>
        rw [hp] at h
        obtain rfl := ints_VR rvs hp
        cases ns with
        | nil => exact h.elim
        | cons x xs =>
          refine cr_min hc pins s σ H _ us Q I r ⟨q, x :: xs, rfl, .of hq, by simp, fun m hm hle => ?_⟩
          obtain ⟨a, b, c⟩ := foldl_min_le xs x
          have e : m = xs.foldl min x := by
            refine Int.le_antisymm ?_ ?_
            · rcases c with c | c
              · rw [c]; exact hle x List.mem_cons_self
              · exact hle _ (List.mem_cons_of_mem _ c)
            · rcases List.mem_cons.mp hm with rfl | hm
              · exact a
              · exact b m hm
          rw [e]; exact h.ofI R
    · exact h.elim
  · exact h.elim
theorem cr_great (hc : X.calm = true) : CallR X (.builtin "max") (relN X.K X.mg bMax) := by
  intro pins s σ H xs us Q I r ⟨φ, M, ws, R, rs, h⟩
  unfold bMax at h
  split at h
  · cases rs with | cons r1 rn => cases rn with | cons r2 rn => cases rn with | nil =>
    obtain rfl := r1.int_inv; obtain rfl := r2.int_inv
    rename_i i j
    refine call_max2 hc pins s σ H _ us Q I r ⟨i, j, rfl, ?_⟩
    have e : (if j > i then j else i) = max i j := by split <;> omega
    rw [e]; exact h.ofI R
  · cases rs with | cons r1 rn => cases rn with | nil =>
    split at h
    · rename_i ws hm
      obtain ⟨q, vs, rfl, eq, hq, rvs⟩ := r1.lst R hm
      cases hp : ws.mapM intW with
      | none => rw [hp] at h; exact h.elim
      | some ns =>
        rw [hp] at h
        obtain rfl := ints_VR rvs hp
        cases ns with
        | nil => exact h.elim
        | cons x xs =>
          refine cr_max hc pins s σ H _ us Q I r ⟨q, x :: xs, rfl, .of hq, by simp, fun m hm hle => ?_⟩
          obtain ⟨a, b, c⟩ := foldl_max_le xs x
          have e : m = xs.foldl max x := by
            refine Int.le_antisymm ?_ ?_
            · rcases List.mem_cons.mp hm with rfl | hm
              · exact a
              · exact b m hm
            · rcases c with c | c
              · rw [c]; exact hle x List.mem_cons_self
              · exact hle _ (List.mem_cons_of_mem _ c)
          rw [e]; exact h.ofI R
    · exact h.elim
  · exact h.elim
theorem cr_total (hc : X.calm = true) : CallR X (.builtin "sum") (relN X.K X.mg bSum) := by
  intro pins s σ H xs us Q I r ⟨φ, M, ws, R, rs, h⟩
  unfold bSum at h
  split at h
  · cases rs with | cons r1 rn => cases rn with | nil =>
    split at h
    · rename_i ws hm
      obtain ⟨q, vs, rfl, eq, hq, rvs⟩ := r1.lst R hm
      cases hp : ws.mapM intW with
      | none => rw [hp] at h; exact h.elim
      | some ns =>
        rw [hp] at h
        obtain rfl := ints_VR rvs hp
        exact cr_sum hc pins s σ H _ us Q I r ⟨q, ns, rfl, .of hq, h.ofI R⟩
    · exact h.elim
  · exact h.elim
/-! ### dicts written -/
variable {Wx : WX} {pos : Pos}
theorem me_newK : ME X Wx (.Dict [] [] pos) eNewK := pe_dnewK.imp fun σ H Q h => by
  obtain ⟨φ, M, L, R, l, h⟩ := h
  exact fun p hp => h (φ ++ [p]) _ _ (R.new hp ⟨[], upd_same, rfl, .nil⟩) (.ref (by rw [← R.len]; simp)) .app (.laid hp)
theorem me_newT : ME X Wx (.Dict [] [] pos) eNewT := pe_dnewT.imp fun σ H Q h => by
  obtain ⟨φ, M, L, R, l, h⟩ := h
  exact fun p hp => h (φ ++ [p]) _ _ (R.new hp ⟨[], upd_same, rfl, .nil⟩) (.ref (by rw [← R.len]; simp)) .app (.laid hp)
/-- the pairs of a display -/
inductive MP (X : Cx) (Wx : WX) : List (Option Expr) → List Expr → List (EM × EM) → Prop where
  | nil : MP X Wx [] [] []
  | cons {k v : Expr} {ks : List (Option Expr)} {vs : List Expr} {mk mv : EM} {ps : List (EM × EM)} : ME X Wx k mk → ME X Wx v mv → MP X Wx ks vs ps → MP X Wx (some k :: ks) (v :: vs) ((mk, mv) :: ps)
theorem MP.pps {ks : List (Option Expr)} {vs : List Expr} {ps : List (EM × EM)} (h : MP X Wx ks vs ps) : PPs X pos ks vs (ps.map fun p => (tM X.K X.mg Wx p.1, tM X.K X.mg Wx p.2)) := by
  induction h with
  | nil => exact pps_nil
  | cons h1 h2 _ ih => exact pps_cons h1 h2 ih
/-- pairs of values -/
def VRp (K : Fr) (φ : Phi) (H : Hp) (ps : List (V × V)) (ws : List (W × W)) : Prop := VRs K φ H (ps.map (·.1)) (ws.map (·.1)) ∧ VRs K φ H (ps.map (·.2)) (ws.map (·.2))
theorem tPairs_of {σ : L2.St} {L : Loc} {E : XK} (hE : E = fun c d H' => Wx c d σ H') : ∀ {ps : List (EM × EM)} {φ : Phi} {M : Hh} {H : Hp} {Q : List (V × V) → Hp → Prop}, Rel K mg φ M H → LR K φ H σ L → Res K mg (VRp K) φ H (evPairs ps L M) Q E →
    tPairs (ps.map fun p => (tM K mg Wx p.1, tM K mg Wx p.2)) σ H Q
  | [], φ, M, H, Q, R, l, h => Res.here h R ⟨.nil, .nil⟩
  | (a, b) :: ps, φ, M, H, Q, R, l, h => by
    subst hE
    rw [List.map_cons]
    refine ⟨φ, M, L, R, l, (Res.seq h).imp (fun v H1 ⟨φ1, M1, w, R1, r1, e1, t1, h1⟩ => ?_) fun _ _ _ z => z⟩
    have l1 := l.mono e1 t1
    refine ⟨φ1, M1, L, R1, l1, (Res.seq h1).imp (fun v2 H2 ⟨φ2, M2, w2, R2, r2, e2, t2, h2⟩ => ?_) fun _ _ _ z => z⟩
    have l2 := l1.mono e2 t2
    refine tPairs_of rfl R2 l2 ((Res.seq h2).imp (fun qs H3 ⟨φ3, M3, ws, R3, r3, e3, t3, h3⟩ => ?_) fun _ _ _ z => z)
    exact Res.here h3 R3 ⟨.cons (r1.mono (e2.trans e3) (t2.trans t3)) r3.1, .cons (r2.mono e3 t3) r3.2⟩
theorem keys_pairs : ∀ {ps : List (V × V)} {ws : List (W × W)} {kvs : List (Key × W)}, VRp K φ H ps ws → ws.mapM (fun p => (keyW p.1).map fun k => (k, p.2)) = some kvs →
    ∃ ks : List (Key × V), ps = ks.map (fun kv => (kV kv.1, kv.2)) ∧ ks.map (·.1) = kvs.map (·.1) ∧ VRs K φ H (ks.map (·.2)) (kvs.map (·.2))
  | [], [], _, _, h => by cases h; exact ⟨[], rfl, rfl, .nil⟩
  | (p1, p2) :: ps, (w1, w2) :: ws, _, ⟨h1, h2⟩, h => by
    obtain ⟨y, ys, e1, e2, rfl⟩ := mapM_cons_some h
    cases h1 with | cons r1 h1 => cases h2 with | cons r2 h2 =>
    obtain ⟨ks, rfl, hk, hv⟩ := keys_pairs ⟨h1, h2⟩ e2
    cases hkw : keyW w1 with
    | none => simp only [hkw] at e1; cases e1
    | some key =>
      simp only [hkw, Option.map_some, Option.some.injEq] at e1
      subst e1
      obtain rfl := keyW_VR r1 hkw
      exact ⟨(key, p2) :: ks, rfl, by simp [hk], .cons r2 hv⟩
  | [], _ :: _, _, ⟨h1, _⟩, _ => nomatch h1
  | _ :: _, [], _, ⟨h1, _⟩, _ => nomatch h1
theorem me_disp {ks : List (Option Expr)} {vs : List Expr} {ps : List (EM × EM)} (h : MP X Wx ks vs ps) (hall : ks.all (·.isSome) = true := by rfl) (hl : ks.length = vs.length := by rfl) (h0 : ks ≠ [] := by exact fun z => nomatch z) (h15 : ks.length ≤ 15 := by decide) :
    ME X Wx (.Dict ks vs pos) (eDisp ps) := (pe_disp h.pps hall hl h0 h15).imp fun σ H Q h => by
  obtain ⟨φ, M, L, R, l, h⟩ := h
  intro p hp
  have R1 : Rel X.K X.mg (φ ++ [p]) (M ++ [.dk []]) (upd H p (.dK [])) := R.new hp ⟨[], upd_same, rfl, .nil⟩
  have hpn : (φ ++ [p])[M.length]? = some p := by rw [← R.len]; simp
  refine tPairs_of rfl R1 (l.mono .app (.laid hp)) ((Res.seq (Res.mono h .app (.laid hp))).imp (fun qs H3 ⟨φ3, M3, ws, R3, r3, e3, t3, h3⟩ => ?_) fun _ _ _ z => z)
  split at h3
  · rename_i kvs hm hkv
    split at h3
    · rename_i hz
      have ep := e3 _ _ hpn
      obtain ⟨ks0, ha, hk0, _⟩ := R3.ob' hm ep
      have hk0' : ks0 = [] := by cases ks0 with
        | nil => rfl
        | cons _ _ => simp at hk0
      subst hk0'
      obtain ⟨ks, rfl, hk, hv⟩ := keys_pairs r3 hkv
      have hlen : ks.length = kvs.length := by have := congrArg List.length hk; simpa using this
      have tw : TK X.K H3 (upd H3 p (.dK (mergeK [] ks))) := .write ha (by intro _ e; cases e) (by intro _ _ e; cases e)
      obtain ⟨m1, m2⟩ := merge_rel (ks := []) (kvs := []) hk hv rfl .nil
      refine ⟨ha, ks, rfl, by rw [hlen]; exact hz, h3 φ3 _ _ (R3.write ep ha (by intro _ e; cases e) (by intro _ _ e; cases e) ⟨_, upd_same, m1, m2.mono .refl tw⟩) (.ref ep) .refl tw⟩
    · exact h3.elim
  · exact h3.elim
theorem me_gint {x : Str} {i : Int} (hg : Gl X x) (hm : ∃ t, X.mg x = some (.int i t)) (hd : (x == ("__debug__" : Str)) = false := by decide) : ME X Wx (.Name x pos) (eCon (.int i)) := by
  obtain ⟨t, hm⟩ := hm
  exact me_con (pe_glob (v := .int i) hg hm ⟨t, rfl⟩ hd) fun _ _ => .d (.int i)
end
end Mi
end

section
/-! MiE: the evaluator's pieces as equations for simp; loops by invariants; operations on data of known shape. -/
namespace Mi
open PySem (PyData Str)

/-! ### the evaluator's pieces, for simp -/
@[simp] theorem eVar_eq (i : Nat) (L : Loc) (h : Hh) : eVar i L h = (match L[i]? with | some (some w) => .ok w h | _ => .bad) := (rfl)
@[simp] theorem eCon_eq (w : W) (L : Loc) (h : Hh) : eCon w L h = .ok w h := (rfl)
@[simp] theorem aNil_eq (L : Loc) (h : Hh) : aNil L h = .ok [] h := (rfl)
@[simp] theorem aCons_eq (a : EM) (r : AM) (L : Loc) (h : Hh) : aCons a r L h = (a L h).bind fun x h => (r L h).bind fun xs h => .ok (x :: xs) h := (rfl)
@[simp] theorem eOp1_eq (f : Op1) (a : EM) (L : Loc) (h : Hh) : eOp1 f a L h = (a L h).bind fun x h => .of (f x h) := (rfl)
@[simp] theorem eOp2_eq (f : Op2) (a b : EM) (L : Loc) (h : Hh) : eOp2 f a b L h = (a L h).bind fun x h => (b L h).bind fun y h => .of (f x y h) := (rfl)
@[simp] theorem eOpN_eq (f : OpN) (a : AM) (L : Loc) (h : Hh) : eOpN f a L h = (a L h).bind fun xs h => .of (f xs h) := (rfl)
@[simp] theorem eCall_eq (f : Fn) (a : AM) (L : Loc) (h : Hh) : eCall f a L h = (a L h).bind fun xs h => f xs h := (rfl)
@[simp] theorem eIf_eq (t : TM) (a b : EM) (L : Loc) (h : Hh) : eIf t a b L h = (t L h).bind fun c h => if c = true then a L h else b L h := (rfl)
@[simp] theorem asBool_bool (b : Bool) : asBool (.d (.bool b)) = some b := (rfl)
/-- by a truth value -/
def onB {α : Type} (o : Option Bool) (x y z : α) : α := match o with
  | some true => x
  | some false => y
  | none => z
@[simp] theorem onB_some {α : Type} (b : Bool) (x y z : α) : onB (some b) x y z = if b = true then x else y := by cases b <;> rfl
@[simp] theorem onB_none {α : Type} (x y z : α) : onB none x y z = z := (rfl)
@[simp] theorem eAnd_eq (a b : EM) (L : Loc) (h : Hh) : eAnd a b L h = (a L h).bind fun x h => onB (asBool x) (b L h) (.ok (W.bool false) h) .bad := by
  unfold eAnd onB
  congr 1
@[simp] theorem eOr_eq (a b : EM) (L : Loc) (h : Hh) : eOr a b L h = (a L h).bind fun x h => onB (asBool x) (.ok (W.bool true) h) (b L h) .bad := by
  unfold eOr onB
  congr 1
@[simp] theorem eNot_eq (a : EM) (L : Loc) (h : Hh) : eNot a L h = (a L h).bind fun x h => (match asBool x with | some c => .ok (W.bool !c) h | none => .bad) := (rfl)
@[simp] theorem eTup_eq (a : AM) (L : Loc) (h : Hh) : eTup a L h = (a L h).bind fun xs h => if xs.length ≤ sizeMax then .ok (mkTup xs) h else .bad := (rfl)
@[simp] theorem eLst_eq (a : AM) (L : Loc) (h : Hh) : eLst a L h = (a L h).bind fun xs h => if xs.length ≤ sizeMax then .ok (.ref h.length) (h ++ [.lst xs]) else .bad := (rfl)
@[simp] theorem eChain_eq (f g : Op2) (a b c : EM) (L : Loc) (h : Hh) : eChain f g a b c L h = (a L h).bind fun x h => (b L h).bind fun y h => (R.of (f x y h)).bind fun r h => onB (asBool r) ((c L h).bind fun z h => .of (g y z h)) (.ok (W.bool false) h) .bad := by
  unfold eChain onB
  congr 1
@[simp] theorem tVal_eq (a : EM) (L : Loc) (h : Hh) : tVal a L h = (a L h).bind fun x h => (match asBool x with | some b => .ok b h | none => .bad) := (rfl)
@[simp] theorem tAnd_eq (a b : TM) (L : Loc) (h : Hh) : tAnd a b L h = (a L h).bind fun c h => if c = true then b L h else .ok false h := (rfl)
@[simp] theorem tOr_eq (a b : TM) (L : Loc) (h : Hh) : tOr a b L h = (a L h).bind fun c h => if c = true then .ok true h else b L h := (rfl)
@[simp] theorem tNot_eq (a : TM) (L : Loc) (h : Hh) : tNot a L h = (a L h).bind fun c h => .ok (!c) h := (rfl)
@[simp] theorem tYes_eq (L : Loc) (h : Hh) : tYes L h = .ok true h := (rfl)
@[simp] theorem sNil_eq (L : Loc) (h : Hh) : sNil L h = .nx L h := (rfl)
@[simp] theorem sCons_eq (a b : SM) (L : Loc) (h : Hh) : sCons a b L h = (a L h).seq b := (rfl)
@[simp] theorem sExpr_eq (e : EM) (L : Loc) (h : Hh) : sExpr e L h = (e L h).then L fun _ h => .nx L h := (rfl)
@[simp] theorem sRet_eq (e : EM) (L : Loc) (h : Hh) : sRet e L h = (e L h).then L fun w h => .rt w h := (rfl)
@[simp] theorem sIf_eq (t : TM) (a b : SM) (L : Loc) (h : Hh) : sIf t a b L h = (t L h).then L fun c h => if c = true then a L h else b L h := (rfl)
@[simp] theorem sAsg_eq (g : Tg) (e : EM) (L : Loc) (h : Hh) : sAsg g e L h = (e L h).then L fun w h => (match g.put w L with | some L' => .nx L' h | none => .bad) := (rfl)
@[simp] theorem put_nm (i : Nat) (w : W) (L : Loc) : (Tg.nm i).put w L = some (L.set i (some w)) := (rfl)
@[simp] theorem sSet_eq (f : W → W → W → Hh → Option Hh) (o i e : EM) (L : Loc) (h : Hh) : sSet f o i e L h = (e L h).then L fun v h => (o L h).then L fun x h => (i L h).then L fun y h => (match f x y v h with | some h => .nx L h | none => .bad) := (rfl)
@[simp] theorem eMetL_eq (f : OpN) (o : EM) (a : AM) (L : Loc) (h : Hh) : eMetL f o a L h = (o L h).bind fun x h => if isLst h x = true then (a L h).bind fun xs h => .of (f (x :: xs) h) else .bad := (rfl)
@[simp] theorem iSeq_eq (a : EM) (L : Loc) (h : Hh) : iSeq a L h = (a L h).bind fun x h => (match x with
  | .ref a => (match h[a]? with | some (.lst ws) => .ok (.ls a ws) h | _ => .bad)
  | w => (match w.items with | some ws => .ok (.tp ws) h | none => .bad)) := (rfl)
@[simp] theorem iRange1_eq (a : EM) (L : Loc) (h : Hh) : iRange1 a L h = (a L h).bind fun x h => (match x with
  | .d (.int n) => if -4611686018427387904 ≤ n ∧ n < 4611686018427387904 then .ok (.rg 0 n.toNat) h else .bad
  | _ => .bad) := (rfl)
@[simp] theorem sFor_eq (i : IM) (g : Tg) (body : SM) (L : Loc) (h : Hh) : sFor i g body L h = (i L h).then L fun s h => forL s.ok g body s.items L h := (rfl)


@[simp] theorem iRange2_eq (a b : EM) (L : Loc) (h : Hh) : iRange2 a b L h = (a L h).bind fun x h => (b L h).bind fun y h => (match x, y with
  | .d (.int lo), .d (.int hi) => if (-4611686018427387904 ≤ lo ∧ lo < 4611686018427387904) ∧ -4611686018427387904 ≤ hi ∧ hi < 4611686018427387904 then .ok (.rg lo (hi - lo).toNat) h else .bad
  | _, _ => .bad) := (rfl)
@[simp] theorem sRetN_eq (L : Loc) (h : Hh) : sRetN L h = .rt .non h := (rfl)
@[simp] theorem sBreak_eq (L : Loc) (h : Hh) : sBreak L h = .bk L h := (rfl)
@[simp] theorem sCont_eq (L : Loc) (h : Hh) : sCont L h = .ct L h := (rfl)
@[simp] theorem sWhile_eq (n : Nat) (t : TM) (body : SM) (L : Loc) (h : Hh) : sWhile n t body L h = whileL t body n L h := (rfl)
@[simp] theorem eSl_eq (f : OpS) (a : EM) (lo hi : PM) (L : Loc) (h : Hh) : eSl f a lo hi L h = (a L h).bind fun x h => (lo L h).bind fun l h => (hi L h).bind fun u h => .of (f x l u h) := (rfl)
@[simp] theorem pNone_eq (L : Loc) (h : Hh) : pNone L h = .ok none h := (rfl)
@[simp] theorem pSome_eq (e : EM) (L : Loc) (h : Hh) : pSome e L h = (e L h).bind fun x h => (match x with
  | .d (.int i) => .ok (some i) h
  | _ => .bad) := (rfl)
@[simp] theorem eComp_eq (i : IM) (vs : List Nat) (g : Tg) (t : TM) (e : EM) (L : Loc) (h : Hh) : eComp i vs g t e L h = (i L h).bind fun s h =>
  compL s.ok vs g (fun L h => noEx (t L h)) (fun L h => noEx (e L h)) h.length L s.items (h ++ [.lst []]) := (rfl)
@[simp] theorem eNewK_eq (L : Loc) (h : Hh) : eNewK L h = .ok (.ref h.length) (h ++ [.dk []]) := (rfl)
@[simp] theorem eNewT_eq (L : Loc) (h : Hh) : eNewT L h = .ok (.ref h.length) (h ++ [.dt []]) := (rfl)
@[simp] theorem noEx_ok {α : Type} (x : α) (h : Hh) : noEx (.ok x h) = .ok x h := (rfl)
@[simp] theorem put_tp (is : List Nat) (w : W) (L : Loc) : (Tg.tp is).put w L = (match w.items with
    | some ws => setAll is ws L
    | none => none) := (rfl)
@[simp] theorem items_rg (lo : Int) (n : Nat) : (Src.rg lo n).items = rgItems lo n := (rfl)
@[simp] theorem items_tp (ws : List W) : (Src.tp ws).items = ws := (rfl)
@[simp] theorem items_ls (a : Nat) (ws : List W) : (Src.ls a ws).items = ws := (rfl)
@[simp] theorem ok_rg (lo : Int) (n : Nat) (h : Hh) : (Src.rg lo n).ok h = True := (rfl)
@[simp] theorem ok_tp (ws : List W) (h : Hh) : (Src.tp ws).ok h = True := (rfl)
@[simp] theorem ok_ls (a : Nat) (ws : List W) (h : Hh) : (Src.ls a ws).ok h = (h[a]? = some (.lst ws)) := (rfl)
open Classical in
theorem eGc_ok {m : EM} {L : Loc} {h h' : Hh} {w : W} (e : m L h = .ok w h') (hw : w.und h.length = true) (hp : h'.take h.length = h) : eGc m L h = .ok w h := by
  unfold eGc; rw [e]; simp [hw, hp]
open Classical in
theorem tGc_ok {t : TM} {L : Loc} {h h' : Hh} {b : Bool} (e : t L h = .ok b h') (hp : h'.take h.length = h) : tGc t L h = .ok b h := by
  unfold tGc; rw [e]; simp [hp]

theorem gc_len {M M' : Hh} {w : W} (h : M'.length = M.length) : gc M w M' = M' := by
  unfold gc; split
  · rw [← h, List.take_length]
  · rfl
/-! ### loops -/
theorem forL_nil {ok : Hh → Prop} {g : Tg} {body : SM} {L : Loc} {h : Hh} (k : ok h) : forL ok g body [] L h = .nx L h := by simp [forL, k]
theorem forL_cons {ok : Hh → Prop} {g : Tg} {body : SM} {w : W} {ws : List W} {L L1 : Loc} {h : Hh} (k : ok h) (hp : g.put w L = some L1) : forL ok g body (w :: ws) L h = (match body L1 h with
      | .nx L2 h2 => forL ok g body ws L2 h2
      | .ct L2 h2 => forL ok g body ws L2 h2
      | .bk L2 h2 => .nx L2 h2
      | o => o) := by
  rw [forL, if_pos k, hp]
  try rfl
/-- a for loop by what holds behind the first items; it may return -/
theorem forL_pre {α : Type} {ok : Hh → Prop} {g : Tg} {body : SM} {enc : α → W} {xs : List α} (I : List α → Loc → Hh → Prop) (Rt : W → Hh → Prop) (he : ∀ pre L h, I pre L h → ok h)
    (hb : ∀ pre x post L h, xs = pre ++ x :: post → I pre L h → ∃ L1, g.put (enc x) L = some L1 ∧ ((∃ L2 h2, (body L1 h = .nx L2 h2 ∨ body L1 h = .ct L2 h2) ∧ I (pre ++ [x]) L2 h2) ∨ ∃ w h2, body L1 h = .rt w h2 ∧ Rt w h2))
    {L : Loc} {h : Hh} (h0 : I [] L h) : (∃ L2 h2, forL ok g body (xs.map enc) L h = .nx L2 h2 ∧ I xs L2 h2) ∨ ∃ w h2, forL ok g body (xs.map enc) L h = .rt w h2 ∧ Rt w h2 := by
  have go : ∀ (post pre : List α) (L : Loc) (h : Hh), xs = pre ++ post → I pre L h → (∃ L2 h2, forL ok g body (post.map enc) L h = .nx L2 h2 ∧ I xs L2 h2) ∨ ∃ w h2, forL ok g body (post.map enc) L h = .rt w h2 ∧ Rt w h2 := by
    intro post
    induction post with
    | nil => intro pre L h e i; rw [List.append_nil] at e; subst e; exact .inl ⟨L, h, forL_nil (he _ _ _ i), i⟩
    | cons x post ih =>
      intro pre L h e i
      obtain ⟨L1, hp, q⟩ := hb pre x post L h e i
      rw [List.map_cons, forL_cons (he _ _ _ i) hp]
      rcases q with ⟨L2, h2, q, i2⟩ | ⟨w, h2, q, r⟩
      · have e2 : xs = (pre ++ [x]) ++ post := by simp [e]
        rcases q with q | q <;> (rw [q]; exact ih (pre ++ [x]) L2 h2 e2 i2)
      · rw [q]; exact .inr ⟨w, h2, rfl, r⟩
  exact go xs [] L h rfl h0
/-- .. that never returns -/
theorem forL_all {α : Type} {ok : Hh → Prop} {g : Tg} {body : SM} {enc : α → W} {xs : List α} (I : List α → Loc → Hh → Prop) (he : ∀ pre L h, I pre L h → ok h)
    (hb : ∀ pre x post L h, xs = pre ++ x :: post → I pre L h → ∃ L1, g.put (enc x) L = some L1 ∧ ∃ L2 h2, (body L1 h = .nx L2 h2 ∨ body L1 h = .ct L2 h2) ∧ I (pre ++ [x]) L2 h2)
    {L : Loc} {h : Hh} (h0 : I [] L h) : ∃ L2 h2, forL ok g body (xs.map enc) L h = .nx L2 h2 ∧ I xs L2 h2 := by
  rcases forL_pre (ok := ok) (g := g) (body := body) (enc := enc) (xs := xs) I (fun _ _ => False) he (fun pre x post L h e i => let ⟨L1, a, b⟩ := hb pre x post L h e i; ⟨L1, a, .inl b⟩) h0 with q | ⟨_, _, _, q⟩
  · exact q
  · exact q.elim
/-- over range(n), by the number of turns -/
theorem forL_num {ok : Hh → Prop} {g : Tg} {body : SM} {n : Nat} (I : Nat → Loc → Hh → Prop) (he : ∀ i L h, I i L h → ok h)
    (hb : ∀ i L h, i < n → I i L h → ∃ L1, g.put (.int (i : Int)) L = some L1 ∧ ∃ L2 h2, (body L1 h = .nx L2 h2 ∨ body L1 h = .ct L2 h2) ∧ I (i + 1) L2 h2)
    {L : Loc} {h : Hh} (h0 : I 0 L h) : ∃ L2 h2, forL ok g body (rgItems 0 n) L h = .nx L2 h2 ∧ I n L2 h2 := by
  have e : rgItems 0 n = (List.range n).map fun (i : Nat) => W.int (i : Int) := by simp [rgItems]
  rw [e]
  have := forL_all (ok := ok) (g := g) (body := body) (enc := fun (i : Nat) => W.int (i : Int)) (xs := List.range n) (fun pre L h => I pre.length L h) (fun pre => he pre.length) (fun pre x post L h e i => by
    have hx : x = pre.length := by
      have : (List.range n)[pre.length]? = some x := by rw [e]; simp
      have := (List.getElem?_eq_some_iff.mp this)
      obtain ⟨a, b⟩ := this
      simpa using b.symm
    have hn : pre.length < n := by
      have := congrArg List.length e
      simp at this; omega
    subst hx
    simpa using hb pre.length L h hn i) h0
  simpa using this
/-- .. that may return -/
theorem forL_numR {ok : Hh → Prop} {g : Tg} {body : SM} {n : Nat} (I : Nat → Loc → Hh → Prop) (Rt : W → Hh → Prop) (he : ∀ i L h, I i L h → ok h)
    (hb : ∀ i L h, i < n → I i L h → ∃ L1, g.put (.int (i : Int)) L = some L1 ∧ ((∃ L2 h2, (body L1 h = .nx L2 h2 ∨ body L1 h = .ct L2 h2) ∧ I (i + 1) L2 h2) ∨ ∃ w h2, body L1 h = .rt w h2 ∧ Rt w h2))
    {L : Loc} {h : Hh} (h0 : I 0 L h) : (∃ L2 h2, forL ok g body (rgItems 0 n) L h = .nx L2 h2 ∧ I n L2 h2) ∨ ∃ w h2, forL ok g body (rgItems 0 n) L h = .rt w h2 ∧ Rt w h2 := by
  have e : rgItems 0 n = (List.range n).map fun (i : Nat) => W.int (i : Int) := by simp [rgItems]
  rw [e]
  have := forL_pre (ok := ok) (g := g) (body := body) (enc := fun (i : Nat) => W.int (i : Int)) (xs := List.range n) (fun pre L h => I pre.length L h) Rt (fun pre => he pre.length) (fun pre x post L h e i => by
    have hx : x = pre.length := by
      have : (List.range n)[pre.length]? = some x := by rw [e]; simp
      have := (List.getElem?_eq_some_iff.mp this)
      obtain ⟨a, b⟩ := this
      simpa using b.symm
    have hn : pre.length < n := by
      have := congrArg List.length e
      simp at this; omega
    subst hx
    simpa using hb pre.length L h hn i) h0
  simpa using this
theorem whileL_step {t : TM} {body : SM} {n : Nat} {L : Loc} {h : Hh} {b : Bool} {h1 : Hh} (ht : t L h = .ok b h1) : whileL t body (n + 1) L h = if b = true then (match body L h1 with
      | .nx L2 h2 => whileL t body n L2 h2
      | .ct L2 h2 => whileL t body n L2 h2
      | .bk L2 h2 => .nx L2 h2
      | o => o) else .nx L h1 := by
  rw [whileL, ht]; rfl
/-- a while loop by what holds and a measure -/
theorem whileL_inv {t : TM} {body : SM} (I : Loc → Hh → Prop) (En : Loc → Hh → Prop) (μ : Loc → Hh → Nat)
    (hb : ∀ L h, I L h → (∃ h1, t L h = .ok false h1 ∧ En L h1) ∨ ∃ h1 L2 h2, t L h = .ok true h1 ∧ (body L h1 = .nx L2 h2 ∨ body L h1 = .ct L2 h2) ∧ I L2 h2 ∧ μ L2 h2 < μ L h) :
    ∀ (n : Nat) {L : Loc} {h : Hh}, I L h → μ L h < n → ∃ L2 h2, whileL t body n L h = .nx L2 h2 ∧ En L2 h2
  | 0, L, h, i, hm => absurd hm (Nat.not_lt_zero _)
  | n + 1, L, h, i, hm => by
    rcases hb L h i with ⟨h1, e, j⟩ | ⟨h1, L2, h2, e, q, i2, lt⟩
    · exact ⟨L, h1, by rw [whileL_step e]; rfl, j⟩
    · rw [whileL_step e, if_pos rfl]
      rcases q with q | q <;> (rw [q]; exact whileL_inv I En μ hb n i2 (by omega))

/-- .. by a number that falls -/
theorem whileL_nat {t : TM} {body : SM} (I : Nat → Loc → Hh → Prop) (En : Loc → Hh → Prop)
    (hb : ∀ m L h, I m L h → (∃ h1, t L h = .ok false h1 ∧ En L h1) ∨ ∃ h1 L2 h2, t L h = .ok true h1 ∧ (body L h1 = .nx L2 h2 ∨ body L h1 = .ct L2 h2) ∧ ∃ m', m' < m ∧ I m' L2 h2) :
    ∀ (n m : Nat) {L : Loc} {h : Hh}, I m L h → m < n → ∃ L2 h2, whileL t body n L h = .nx L2 h2 ∧ En L2 h2
  | 0, m, L, h, i, hm => absurd hm (Nat.not_lt_zero _)
  | n + 1, m, L, h, i, hm => by
    rcases hb m L h i with ⟨h1, e, j⟩ | ⟨h1, L2, h2, e, q, m', lt, i2⟩
    · exact ⟨L, h1, by rw [whileL_step e]; rfl, j⟩
    · rw [whileL_step e, if_pos rfl]
      rcases q with q | q <;> (rw [q]; exact whileL_nat I En hb n m' i2 (by omega))

/-! ### comprehensions -/
theorem compL_nil {ok : Hh → Prop} {vs : List Nat} {g : Tg} {t : TM} {e : EM} {D : Nat} {L : Loc} {h : Hh} (k : ok h) : compL ok vs g t e D L [] h = .ok (.ref D) h := by simp [compL, k]
/-- a comprehension whose tests and elements change nothing -/
theorem compL_pure {α : Type} {ok : Hh → Prop} {vs : List Nat} {g : Tg} {t : TM} {e : EM} {L : Loc} {h : Hh} {enc : α → W} (p : α → Bool) (f : α → W) : ∀ (xs : List α) (acc : List W),
    (∀ acc : List W, ok (h ++ [.lst acc])) → acc.length + xs.length ≤ sizeMax →
    (∀ x ∈ xs, ∃ L1, g.put (enc x) (wipeL L vs) = some L1 ∧ ∀ acc : List W, t L1 (h ++ [.lst acc]) = .ok (p x) (h ++ [.lst acc]) ∧ (p x = true → e L1 (h ++ [.lst acc]) = .ok (f x) (h ++ [.lst acc]))) →
    compL ok vs g t e h.length L (xs.map enc) (h ++ [.lst acc]) = .ok (.ref h.length) (h ++ [.lst (acc ++ (xs.filter p).map f)])
  | [], acc, hok, hl, hx => by
    simp [compL_nil (hok acc)]
  | x :: xs, acc, hok, hl, hx => by
    obtain ⟨L1, hp, hx1⟩ := hx x List.mem_cons_self
    obtain ⟨ht, he⟩ := hx1 acc
    rw [List.length_cons] at hl
    rw [List.map_cons, compL, if_pos (hok acc), hp]
    simp only [ht, R.bind_ok]
    cases hpx : p x with
    | false =>
      rw [if_neg Bool.false_ne_true, List.filter_cons_of_neg (by simp [hpx])]
      exact compL_pure p f xs acc hok (by omega) fun y hy => hx y (List.mem_cons_of_mem _ hy)
    | true =>
      rw [if_pos rfl, he hpx, List.filter_cons_of_pos hpx]
      have hD : (h ++ [O.lst acc])[h.length]? = some (.lst acc) := by simp
      have hset : (h ++ [O.lst acc]).set h.length (.lst (acc ++ [f x])) = h ++ [.lst (acc ++ [f x])] := by simp
      simp only [R.bind_ok, hD, hset]
      rw [if_pos (by omega)]
      have := compL_pure p f xs (acc ++ [f x]) hok (by rw [List.length_append, List.length_singleton]; omega) fun y hy => hx y (List.mem_cons_of_mem _ hy)
      rw [this]
      simp
theorem eComp_pure {α : Type} {i : IM} {vs : List Nat} {g : Tg} {t : TM} {e : EM} {L : Loc} {h0 h : Hh} {enc : α → W} {s : Src} (p : α → Bool) (f : α → W) (xs : List α) (hi : i L h0 = .ok s h) (hs : s.items = xs.map enc)
    (hok : ∀ acc : List W, s.ok (h ++ [.lst acc])) (hl : xs.length ≤ sizeMax)
    (hx : ∀ x ∈ xs, ∃ L1, g.put (enc x) (wipeL L vs) = some L1 ∧ ∀ acc : List W, t L1 (h ++ [.lst acc]) = .ok (p x) (h ++ [.lst acc]) ∧ (p x = true → e L1 (h ++ [.lst acc]) = .ok (f x) (h ++ [.lst acc]))) :
    eComp i vs g t e L h0 = .ok (.ref h.length) (h ++ [.lst ((xs.filter p).map f)]) := by
  rw [eComp_eq, hi, R.bind_ok, hs]
  have := compL_pure (ok := s.ok) (vs := vs) (g := g) (t := fun L h => noEx (t L h)) (e := fun L h => noEx (e L h)) (L := L) (h := h) (enc := enc) p f xs [] hok (by simpa using hl) (fun x hx' => by
    obtain ⟨L1, a, b⟩ := hx x hx'
    exact ⟨L1, a, fun acc => ⟨by rw [(b acc).1]; rfl, fun q => by rw [(b acc).2 q]; rfl⟩⟩)
  simpa using this

/-! ### subscripts -/
theorem atI_lt {α : Type} {xs : List α} {n : Nat} {x : α} (h : xs[n]? = some x) : atI xs (n : Int) = some x := by
  obtain ⟨hl, he⟩ := List.getElem?_eq_some_iff.mp h
  simp [atI, ixN, hl, he]
theorem opIx_tup {xs : List PyData} {n : Nat} {x : PyData} {M : Hh} (h : xs[n]? = some x) : opIx (.d (.tuple xs)) (.d (.int (n : Int))) M = some (.d x, M) := by
  simp [opIx, atI_lt (xs := xs.map W.d) (n := n) (x := .d x) (by simp [h])]
theorem opIx_rol {xs : List PyData} {n : Nat} {x : PyData} {M : Hh} (h : xs[n]? = some x) : opIx (.d (.list xs)) (.d (.int (n : Int))) M = some (.d x, M) := by
  simp [opIx, atI_lt (xs := xs) (n := n) (x := x) h]
theorem opIx_lst {ws : List W} {a n : Nat} {x : W} {M : Hh} (hm : M[a]? = some (.lst ws)) (h : ws[n]? = some x) : opIx (.ref a) (.d (.int (n : Int))) M = some (x, M) := by
  simp [opIx, hm, atI_lt (xs := ws) (n := n) (x := x) h]
end Mi
end

section
/-! SemF: the defs of facts.py as terms of the evaluator (printed by gen.py). -/
namespace Sem
open Mi
/-! is_integer: 0 thing -/
noncomputable def b_is_integer : SM :=
  (sCons (sRet (eAnd (eOp1 (isI "int") (eVar 0)) (eNot (eOp1 (isI "bool") (eVar 0)))))
  sNil)
noncomputable def m_is_integer : Fn := fn 1 1 b_is_integer

/-! unknowns_of: 0 facts, 1 found, 2 i, 3 j, 4 c, 5 unknown -/
noncomputable def l1_unknowns_of : SM :=
  (sCons (sIf (tVal (eOp2 opNotIn (eVar 5) (eVar 1)))
  (sCons (sExpr (eMetL mAppend (eVar 1) (aCons (eVar 5) aNil)))
  sNil)
  sNil)
  sNil)
noncomputable def l0_unknowns_of : SM :=
  (sCons (sFor (iSeq (eTup (aCons (eVar 2) (aCons (eVar 3) aNil)))) (.nm 5)
  l1_unknowns_of)
  sNil)
noncomputable def b_unknowns_of : SM :=
  (sCons (sAsg (.nm 1) (eLst (aCons (eCon (.int 0)) aNil)))
  (sCons (sFor (iSeq (eVar 0)) (.tp [2, 3, 4])
  l0_unknowns_of)
  (sCons (sRet (eVar 1))
  sNil)))
noncomputable def m_unknowns_of : Fn := fn 1 6 b_unknowns_of

/-! relaxed: 0 facts, 1 least, 2 last, 3 smaller, 4 place, 5 i, 6 j, 7 c -/
noncomputable def l0_relaxed : SM :=
  (sCons (sAsg (.tp [5, 6, 7]) (eOp2 opIx (eVar 0) (eVar 4)))
  (sCons (sIf (tAnd (tVal (eOp2 opIn (eVar 6) (eVar 1))) (tOr (tVal (eOp2 opNotIn (eVar 5) (eVar 1))) (tVal (eOp2 opLt (eOp2 opAdd (eOp2 opIx (eVar 1) (eVar 6)) (eVar 7)) (eOp2 opIx (eVar 1) (eVar 5))))))
  (sCons (sSet setIx (eVar 1) (eVar 5) (eOp2 opAdd (eOp2 opIx (eVar 1) (eVar 6)) (eVar 7)))
  (sCons (sSet setIx (eVar 2) (eVar 5) (eVar 4))
  (sCons (sAsg (.nm 3) (eCon (.bool true)))
  sNil)))
  sNil)
  sNil))
noncomputable def b_relaxed : SM :=
  (sCons (sAsg (.nm 3) (eCon (.bool false)))
  (sCons (sFor (iRange1 (eOpN bLen (aCons (eVar 0) aNil))) (.nm 4)
  l0_relaxed)
  (sCons (sRet (eVar 3))
  sNil)))
noncomputable def m_relaxed : Fn := fn 3 8 b_relaxed

/-! walked_round: 0 facts, 1 last, 2 start, 3 met, 4 unknown, 5 first, 6 row -/
noncomputable def l1_walked_round : SM :=
  (sCons (sExpr (eMetL mAppend (eVar 6) (aCons (eOp2 opIx (eVar 1) (eVar 4)) aNil)))
  (sCons (sAsg (.nm 4) (eOp2 opIx (eOp2 opIx (eVar 0) (eOp2 opIx (eVar 1) (eVar 4))) (eCon (.int 1))))
  sNil))
noncomputable def l0_walked_round : SM :=
  (sCons (sExpr (eMetL mAppend (eVar 3) (aCons (eVar 4) aNil)))
  (sCons (sAsg (.nm 4) (eOp2 opIx (eOp2 opIx (eVar 0) (eOp2 opIx (eVar 1) (eVar 4))) (eCon (.int 1))))
  sNil))
noncomputable def b_walked_round : SM :=
  (sCons (sAsg (.nm 3) (eLst aNil))
  (sCons (sAsg (.nm 4) (eVar 2))
  (sCons (sWhile 1000000 (tVal (eOp2 opNotIn (eVar 4) (eVar 3)))
  l0_walked_round)
  (sCons (sAsg (.nm 5) (eVar 4))
  (sCons (sAsg (.nm 6) (eLst aNil))
  (sCons (sWhile 1000000 (tOr (tGc (tVal (eOp2 opEq (eVar 6) (eLst aNil)))) (tVal (eOp2 opNe (eVar 4) (eVar 5))))
  l1_walked_round)
  (sCons (sRet (eOpN bTuple (aCons (eVar 6) aNil)))
  sNil)))))))
noncomputable def m_walked_round : Fn := fn 3 7 b_walked_round

/-! clash: 0 facts, 1 least, 2 unknown, 3 last, 4 turn, 5 probe, 6 more, 7 changed -/
noncomputable def l0_clash : SM :=
  (sCons (sIf (tNot (tVal (eCall m_relaxed (aCons (eVar 0) (aCons (eVar 1) (aCons (eVar 3) aNil))))))
  (sCons (sRet (eCon .non))
  sNil)
  sNil)
  sNil)
noncomputable def b_clash : SM :=
  (sCons (sAsg (.nm 1) (eOpN bDict (aCons (eComp (iSeq (eCall m_unknowns_of (aCons (eVar 0) aNil))) [2] (.nm 2) tYes (eTup (aCons (eVar 2) (aCons (eCon (.int 0)) aNil)))) aNil)))
  (sCons (sAsg (.nm 3) eNewK)
  (sCons (sFor (iRange1 (eOpN bLen (aCons (eVar 1) aNil))) (.nm 4)
  l0_clash)
  (sCons (sAsg (.nm 5) (eOpN bDict (aCons (eVar 1) aNil)))
  (sCons (sAsg (.nm 6) (eOpN bDict (aCons (eVar 3) aNil)))
  (sCons (sExpr (eCall m_relaxed (aCons (eVar 0) (aCons (eVar 5) (aCons (eVar 6) aNil)))))
  (sCons (sAsg (.nm 7) (eComp (iSeq (eOpN bSorted (aCons (eVar 5) aNil))) [2] (.nm 2) (tVal (eOp2 opLt (eOp2 opIx (eVar 5) (eVar 2)) (eOp2 opIx (eVar 1) (eVar 2)))) (eVar 2)))
  (sCons (sRet (eCall m_walked_round (aCons (eVar 0) (aCons (eVar 6) (aCons (eOp2 opIx (eVar 7) (eCon (.int 0))) aNil)))))
  sNil))))))))
noncomputable def m_clash : Fn := fn 1 8 b_clash

/-! sums_to: 0 facts, 1 j, 2 least, 3 last, 4 turns -/
noncomputable def l0_sums_to : SM :=
  (sCons (sAsg (.nm 4) (eOp2 opAdd (eVar 4) (eCon (.int 1))))
  sNil)
noncomputable def b_sums_to : SM :=
  (sCons (sAsg (.nm 2) (eDisp [((eVar 1), (eCon (.int 0)))]))
  (sCons (sAsg (.nm 3) eNewK)
  (sCons (sAsg (.nm 4) (eCon (.int 0)))
  (sCons (sWhile 1000000 (tVal (eCall m_relaxed (aCons (eVar 0) (aCons (eVar 2) (aCons (eVar 3) aNil)))))
  l0_sums_to)
  (sCons (sRet (eTup (aCons (eVar 2) (aCons (eVar 3) aNil))))
  sNil)))))
noncomputable def m_sums_to : Fn := fn 2 5 b_sums_to

/-! chain: 0 facts, 1 fact, 2 i, 3 j, 4 c, 5 found, 6 least, 7 last, 8 row -/
noncomputable def l0_chain : SM :=
  (sCons (sExpr (eMetL mAppend (eVar 8) (aCons (eOp2 opIx (eVar 7) (eVar 2)) aNil)))
  (sCons (sAsg (.nm 2) (eOp2 opIx (eOp2 opIx (eVar 0) (eOp2 opIx (eVar 7) (eVar 2))) (eCon (.int 1))))
  sNil))
noncomputable def b_chain : SM :=
  (sCons (sAsg (.tp [2, 3, 4]) (eVar 1))
  (sCons (sAsg (.nm 5) (eCall m_clash (aCons (eVar 0) aNil)))
  (sCons (sIf (tVal (eOp2 (opIsN true) (eVar 5) (eCon .non)))
  (sCons (sRet (eVar 5))
  sNil)
  sNil)
  (sCons (sAsg (.tp [6, 7]) (eCall m_sums_to (aCons (eVar 0) (aCons (eVar 3) aNil))))
  (sCons (sIf (tOr (tVal (eOp2 opNotIn (eVar 2) (eVar 6))) (tVal (eOp2 opGt (eOp2 opIx (eVar 6) (eVar 2)) (eVar 4))))
  (sCons (sRet (eCon .non))
  sNil)
  sNil)
  (sCons (sAsg (.nm 8) (eLst aNil))
  (sCons (sWhile 1000000 (tVal (eOp2 opNe (eVar 2) (eVar 3)))
  l0_chain)
  (sCons (sRet (eOpN bTuple (aCons (eVar 8) aNil)))
  sNil))))))))
noncomputable def m_chain : Fn := fn 2 9 b_chain

/-! goes_on: 0 facts, 1 row, 2 total, 3 place -/
noncomputable def l0_goes_on : SM :=
  (sCons (sIf (tAnd (tVal (eOp2 opGt (eVar 3) (eCon (.int 0)))) (tVal (eOp2 opNe (eOp2 opIx (eOp2 opIx (eVar 0) (eOp2 opIx (eVar 1) (eOp2 opSub (eVar 3) (eCon (.int 1))))) (eCon (.int 1))) (eOp2 opIx (eOp2 opIx (eVar 0) (eOp2 opIx (eVar 1) (eVar 3))) (eCon (.int 0))))))
  (sCons (sRet (eCon .non))
  sNil)
  sNil)
  (sCons (sAsg (.nm 2) (eOp2 opAdd (eVar 2) (eOp2 opIx (eOp2 opIx (eVar 0) (eOp2 opIx (eVar 1) (eVar 3))) (eCon (.int 2)))))
  sNil))
noncomputable def b_goes_on : SM :=
  (sCons (sAsg (.nm 2) (eCon (.int 0)))
  (sCons (sFor (iRange1 (eOpN bLen (aCons (eVar 1) aNil))) (.nm 3)
  l0_goes_on)
  (sCons (sRet (eVar 2))
  sNil)))
noncomputable def m_goes_on : Fn := fn 2 4 b_goes_on

/-! proves: 0 facts, 1 fact, 2 thing, 3 place, 4 i, 5 j, 6 c, 7 total, 8 first, 9 final -/
noncomputable def l0_proves : SM :=
  (sCons (sIf (tOr (tNot (tVal (eCall m_is_integer (aCons (eVar 3) aNil)))) (tNot (tVal (eChain opLe opLt (eCon (.int 0)) (eVar 3) (eOpN bLen (aCons (eVar 0) aNil))))))
  (sCons (sRet (eCon (.bool false)))
  sNil)
  sNil)
  sNil)
noncomputable def b_proves : SM :=
  (sCons (sIf (tNot (tVal (eOp1 (isI "tuple") (eVar 2))))
  (sCons (sRet (eCon (.bool false)))
  sNil)
  sNil)
  (sCons (sFor (iSeq (eVar 2)) (.nm 3)
  l0_proves)
  (sCons (sAsg (.tp [4, 5, 6]) (eVar 1))
  (sCons (sIf (tVal (eOp2 opEq (eVar 2) (eTup aNil)))
  (sCons (sRet (eAnd (eOp2 opEq (eVar 4) (eVar 5)) (eOp2 opGe (eVar 6) (eCon (.int 0)))))
  sNil)
  sNil)
  (sCons (sAsg (.nm 7) (eCall m_goes_on (aCons (eVar 0) (aCons (eVar 2) aNil))))
  (sCons (sIf (tVal (eOp2 (opIsN false) (eVar 7) (eCon .non)))
  (sCons (sRet (eCon (.bool false)))
  sNil)
  sNil)
  (sCons (sAsg (.nm 8) (eOp2 opIx (eOp2 opIx (eVar 0) (eOp2 opIx (eVar 2) (eCon (.int 0)))) (eCon (.int 0))))
  (sCons (sAsg (.nm 9) (eOp2 opIx (eOp2 opIx (eVar 0) (eOp2 opIx (eVar 2) (eOp1 opNeg (eCon (.int 1))))) (eCon (.int 1))))
  (sCons (sRet (eOr (eAnd (eOp2 opEq (eVar 8) (eVar 4)) (eAnd (eOp2 opEq (eVar 9) (eVar 5)) (eOp2 opLe (eVar 7) (eVar 6)))) (eAnd (eOp2 opEq (eVar 8) (eVar 9)) (eOp2 opLt (eVar 7) (eCon (.int 0))))))
  sNil)))))))))
noncomputable def m_proves : Fn := fn 3 10 b_proves

/-! fulfil: 0 values, 1 facts, 2 fact -/
noncomputable def b_fulfil : SM :=
  (sCons (sRet (eOp2 opEq (eGc (eOpN bLen (aCons (eComp (iSeq (eVar 1)) [2] (.nm 2) (tVal (eOp2 opGt (eOp2 opIx (eVar 0) (eOp2 opIx (eVar 2) (eCon (.int 0)))) (eOp2 opAdd (eOp2 opIx (eVar 0) (eOp2 opIx (eVar 2) (eCon (.int 1)))) (eOp2 opIx (eVar 2) (eCon (.int 2)))))) (eVar 2)) aNil))) (eCon (.int 0))))
  sNil)
noncomputable def m_fulfil : Fn := fn 2 3 b_fulfil

/-! numbers_for: 0 facts, 1 many, 2 least, 3 unknown, 4 last -/
noncomputable def l0_numbers_for : SM :=
  (sCons (sAsg (.nm 4) eNewK)
  sNil)
noncomputable def b_numbers_for : SM :=
  (sCons (sIf (tVal (eOp2 (opIsN true) (eCall m_clash (aCons (eVar 0) aNil)) (eCon .non)))
  (sCons (sRet (eCon .non))
  sNil)
  sNil)
  (sCons (sAsg (.nm 2) (eOpN bDict (aCons (eComp (iRange1 (eVar 1)) [3] (.nm 3) tYes (eTup (aCons (eVar 3) (aCons (eCon (.int 0)) aNil)))) aNil)))
  (sCons (sAsg (.nm 4) eNewK)
  (sCons (sWhile 1000000 (tVal (eCall m_relaxed (aCons (eVar 0) (aCons (eVar 2) (aCons (eVar 4) aNil)))))
  l0_numbers_for)
  (sCons (sRet (eGc (eOpN bTuple (aCons (eComp (iRange1 (eVar 1)) [3] (.nm 3) tYes (eOp2 opSub (eOp2 opIx (eVar 2) (eVar 3)) (eOp2 opIx (eVar 2) (eCon (.int 0))))) aNil))))
  sNil)))))
noncomputable def m_numbers_for : Fn := fn 2 5 b_numbers_for

/-! against: 0 facts, 1 fact, 2 many, 3 i, 4 j, 5 c -/
noncomputable def b_against : SM :=
  (sCons (sAsg (.tp [3, 4, 5]) (eVar 1))
  (sCons (sRet (eCall m_numbers_for (aCons (eOp2 opAdd (eOpN bTuple (aCons (eVar 0) aNil)) (eTup (aCons (eTup (aCons (eVar 4) (aCons (eVar 3) (aCons (eOp2 opSub (eOp2 opSub (eCon (.int 0)) (eVar 5)) (eCon (.int 1))) aNil)))) aNil))) (aCons (eVar 2) aNil))))
  sNil))
noncomputable def m_against : Fn := fn 3 6 b_against

end Sem
end

section
/-! SemD: what each law draws from its script, as terms of the evaluator (printed by gen.py). -/
namespace Sem
open Mi
/-! _law_cell: 0 script, 1 k -/
noncomputable def b__law_cell : SM :=
  (sCons (sIf (tVal (eOp2 opLt (eVar 1) (eOpN bLen (aCons (eVar 0) aNil))))
  (sCons (sRet (eOp2 opIx (eVar 0) (eVar 1)))
  sNil)
  sNil)
  (sCons (sRet (eCon (.int 0)))
  sNil))
noncomputable def m__law_cell : Fn := fn 2 2 b__law_cell

/-! _law_digits: 0 script, 1 first, 2 last, 3 digits, 4 k, 5 cell, 6 turn, 7 seed -/
noncomputable def l1__law_digits : SM :=
  (sCons (sIf (tVal (eOp2 opGt (eVar 5) (eCon (.int 0))))
  (sCons (sExpr (eMetL mAppend (eVar 3) (aCons (eOp2 opMod (eOpN bInt (aCons (eVar 5) aNil)) (eCon (.int 1000))) aNil)))
  (sCons (sAsg (.nm 5) (eOp2 opFloorDiv (eVar 5) (eCon (.int 1000))))
  sNil))
  sNil)
  sNil)
noncomputable def l2__law_digits : SM :=
  (sCons (sAsg (.nm 7) (eOp2 opMod (eOpN bInt (aCons (eOp2 opAdd (eOp2 opAdd (eOp2 opMul (eVar 7) (eCon (.int 16807))) (eOp2 opMul (eCon (.int 7)) (eVar 6))) (eCon (.int 1))) aNil)) (eCon (.int 2147483647))))
  (sCons (sExpr (eMetL mAppend (eVar 3) (aCons (eOp2 opMod (eOpN bInt (aCons (eOp2 opFloorDiv (eVar 7) (eCon (.int 997))) aNil)) (eCon (.int 1000))) aNil)))
  sNil))
noncomputable def l0__law_digits : SM :=
  (sCons (sAsg (.nm 5) (eCall m__law_cell (aCons (eVar 0) (aCons (eVar 4) aNil))))
  (sCons (sIf (tVal (eOp2 opLt (eVar 5) (eCon (.int 0))))
  (sCons (sAsg (.nm 5) (eOp2 opSub (eCon (.int 1)) (eOp2 opMul (eCon (.int 2)) (eVar 5))))
  sNil)
  sNil)
  (sCons (sIf (tVal (eOp2 opGe (eVar 5) (eOp2 opPow (eCon (.int 10)) (eCon (.int 18)))))
  (sCons (sFor (iRange1 (eCon (.int 60))) (.nm 6)
  l1__law_digits)
  sNil)
  (sCons (sAsg (.nm 7) (eOp2 opMod (eOpN bInt (aCons (eOp2 opAdd (eOp2 opAdd (eOp2 opMul (eVar 5) (eCon (.int 48271))) (eOp2 opMul (eVar 4) (eCon (.int 69621)))) (eCon (.int 11))) aNil)) (eCon (.int 2147483647))))
  (sCons (sFor (iRange1 (eCon (.int 12))) (.nm 6)
  l2__law_digits)
  sNil)))
  sNil)))
noncomputable def b__law_digits : SM :=
  (sCons (sAsg (.nm 3) (eLst aNil))
  (sCons (sFor (iRange2 (eVar 1) (eVar 2)) (.nm 4)
  l0__law_digits)
  (sCons (sRet (eVar 3))
  sNil)))
noncomputable def m__law_digits : Fn := fn 3 8 b__law_digits

/-! _law_draw: 0 box, 1 many, 2 at -/
noncomputable def b__law_draw : SM :=
  (sCons (sAsg (.nm 2) (eOp2 opIx (eVar 0) (eCon (.int 1))))
  (sCons (sSet setIx (eVar 0) (eCon (.int 1)) (eOp2 opAdd (eVar 2) (eCon (.int 1))))
  (sCons (sIf (tVal (eOp2 opLt (eVar 2) (eOpN bLen (aCons (eOp2 opIx (eVar 0) (eCon (.int 0))) aNil))))
  (sCons (sRet (eOp2 opMod (eOpN bInt (aCons (eOp2 opIx (eOp2 opIx (eVar 0) (eCon (.int 0))) (eVar 2)) aNil)) (eVar 1)))
  sNil)
  sNil)
  (sCons (sRet (eCon (.int 0)))
  sNil))))
noncomputable def m__law_draw : Fn := fn 2 3 b__law_draw

end Sem
end

section
/-! BF: facts i <= j + c; least sums by rounds over the facts; what a round that goes on forever shows. Plain Lean. -/
namespace BF
abbrev Fact := Int × Int × Int
abbrev Mp := Int → Option Int
abbrev Pi := Int → Option Nat
def upd {α : Type} (f : Int → Option α) (k : Int) (v : α) : Int → Option α := fun x => if x = k then some v else f x
theorem upd_same {α : Type} {f : Int → Option α} {k : Int} {v : α} : upd f k v k = some v := by simp [upd]
theorem upd_ne {α : Type} {f : Int → Option α} {k x : Int} {v : α} (h : x ≠ k) : upd f k v x = f x := by simp [upd, h]
/-- whole numbers fulfil a fact -/
def Sat (x : Int → Int) (f : Fact) : Prop := x f.1 ≤ x f.2.1 + f.2.2
/-- a fact looked at -/
def step (fs : List Fact) (s : Mp × Pi × Bool) (p : Nat) : Mp × Pi × Bool :=
  match fs[p]? with
  | none => s
  | some (i, j, c) => match s.1 j with
    | none => s
    | some b => match s.1 i with
      | none => (upd s.1 i (b + c), upd s.2.1 i p, true)
      | some a => if b + c < a then (upd s.1 i (b + c), upd s.2.1 i p, true) else s
def passTo (fs : List Fact) (l : Mp) (q : Pi) (n : Nat) : Mp × Pi × Bool := (List.range n).foldl (step fs) (l, q, false)
def pass (fs : List Fact) (l : Mp) (q : Pi) : Mp × Pi × Bool := passTo fs l q fs.length
theorem passTo_succ (fs : List Fact) (l : Mp) (q : Pi) (n : Nat) : passTo fs l q (n + 1) = step fs (passTo fs l q n) n := by
  simp [passTo, List.range_succ]
/-- what a step does: nothing, or a smaller sum -/
theorem step_cases (fs : List Fact) (s : Mp × Pi × Bool) (p : Nat) :
    (step fs s p = s ∧ ∀ i j c b, fs[p]? = some (i, j, c) → s.1 j = some b → ∃ a, s.1 i = some a ∧ a ≤ b + c) ∨
    ∃ i j c b, fs[p]? = some (i, j, c) ∧ s.1 j = some b ∧ (∀ a, s.1 i = some a → b + c < a) ∧ step fs s p = (upd s.1 i (b + c), upd s.2.1 i p, true) := by
  unfold step
  cases hf : fs[p]? with
  | none => exact .inl ⟨rfl, fun i j c b h => by cases h⟩
  | some f =>
    obtain ⟨i, j, c⟩ := f
    cases hj : s.1 j with
    | none =>
      refine .inl ⟨by simp [hj], fun i' j' c' b h hb => ?_⟩
      cases h; rw [hj] at hb; cases hb
    | some b =>
      cases hi : s.1 i with
      | none => exact .inr ⟨i, j, c, b, rfl, hj, (fun a h => by rw [hi] at h; cases h), by simp [hj, hi]⟩
      | some a =>
        by_cases hlt : b + c < a
        · exact .inr ⟨i, j, c, b, rfl, hj, (fun a' h => by rw [hi] at h; cases h; exact hlt), by simp [hj, hi, hlt]⟩
        · refine .inl ⟨by simp [hj, hi, hlt], fun i' j' c' b' h hb => ?_⟩
          cases h; rw [hj] at hb; cases hb
          exact ⟨a, hi, by omega⟩
/-- what holds of each state, if updates keep it -/
theorem passTo_inv {fs : List Fact} (P : Mp → Pi → Prop) (hu : ∀ l q p i j c b, fs[p]? = some (i, j, c) → l j = some b → (∀ a, l i = some a → b + c < a) → P l q → P (upd l i (b + c)) (upd q i p))
    {l : Mp} {q : Pi} (h : P l q) : ∀ n, P (passTo fs l q n).1 (passTo fs l q n).2.1
  | 0 => h
  | n + 1 => by
    rw [passTo_succ]
    rcases step_cases fs (passTo fs l q n) n with ⟨e, _⟩ | ⟨i, j, c, b, h1, h2, h3, e⟩
    · rw [e]; exact passTo_inv P hu h n
    · rw [e]; exact hu _ _ _ _ _ _ _ h1 h2 h3 (passTo_inv P hu h n)
theorem pass_inv {fs : List Fact} (P : Mp → Pi → Prop) (hu : ∀ l q p i j c b, fs[p]? = some (i, j, c) → l j = some b → (∀ a, l i = some a → b + c < a) → P l q → P (upd l i (b + c)) (upd q i p))
    {l : Mp} {q : Pi} (h : P l q) : P (pass fs l q).1 (pass fs l q).2.1 := passTo_inv P hu h _
/-- sums only become smaller -/
def Le (l l' : Mp) : Prop := ∀ u a, l u = some a → ∃ a', l' u = some a' ∧ a' ≤ a
theorem Le.refl (l : Mp) : Le l l := fun _ a h => ⟨a, h, Int.le_refl _⟩
theorem Le.trans {a b c : Mp} (x : Le a b) (y : Le b c) : Le a c := fun u z h => by
  obtain ⟨z1, h1, e1⟩ := x u z h
  obtain ⟨z2, h2, e2⟩ := y u z1 h1
  exact ⟨z2, h2, by omega⟩
theorem step_le (fs : List Fact) (s : Mp × Pi × Bool) (p : Nat) : Le s.1 (step fs s p).1 := by
  rcases step_cases fs s p with ⟨e, _⟩ | ⟨i, j, c, b, h1, h2, h3, e⟩
  · rw [e]; exact .refl _
  · rw [e]
    intro u a h
    by_cases hu : u = i
    · subst hu; exact ⟨_, upd_same, Int.le_of_lt (h3 a h)⟩
    · exact ⟨a, by show upd s.1 i (b + c) u = some a; rw [upd_ne hu]; exact h, Int.le_refl _⟩
theorem passTo_le (fs : List Fact) (l : Mp) (q : Pi) : ∀ (m n : Nat), m ≤ n → Le (passTo fs l q m).1 (passTo fs l q n).1
  | m, 0, h => by
    have : m = 0 := by omega
    subst this; exact .refl _
  | m, n + 1, h => by
    by_cases e : m = n + 1
    · subst e; exact .refl _
    · rw [passTo_succ]
      exact (passTo_le fs l q m n (by omega)).trans (step_le fs _ n)
/-- behind a pass each fact was looked at -/
theorem pass_fact {fs : List Fact} {l : Mp} {q : Pi} {p : Nat} {i j c b : Int} (hf : fs[p]? = some (i, j, c)) (hb : l j = some b) : ∃ a, (pass fs l q).1 i = some a ∧ a ≤ b + c := by
  have hp : p < fs.length := (List.getElem?_eq_some_iff.mp hf).1
  obtain ⟨b1, hb1, e1⟩ := passTo_le fs l q 0 p (Nat.zero_le _) j b hb
  have mid : ∃ a, (passTo fs l q (p + 1)).1 i = some a ∧ a ≤ b1 + c := by
    rw [passTo_succ]
    rcases step_cases fs (passTo fs l q p) p with ⟨e, h⟩ | ⟨i', j', c', b', h1, h2, h3, e⟩
    · rw [e]; exact h i j c b1 hf hb1
    · rw [hf] at h1; cases h1
      rw [hb1] at h2; cases h2
      rw [e]; exact ⟨_, upd_same, Int.le_refl _⟩
  obtain ⟨a, ha, e2⟩ := mid
  obtain ⟨a', ha', e3⟩ := passTo_le fs l q (p + 1) fs.length (by omega) i a ha
  exact ⟨a', ha', by omega⟩
/-- a pass that changes nothing -/
theorem passTo_false {fs : List Fact} {l : Mp} {q : Pi} : ∀ {n : Nat}, (passTo fs l q n).2.2 = false → passTo fs l q n = (l, q, false)
  | 0, _ => rfl
  | n + 1, h => by
    rw [passTo_succ] at h ⊢
    rcases step_cases fs (passTo fs l q n) n with ⟨e, _⟩ | ⟨i, j, c, b, h1, h2, h3, e⟩
    · rw [e] at h ⊢; exact passTo_false h
    · rw [e] at h; cases h
theorem pass_stable {fs : List Fact} {l : Mp} {q : Pi} (h : (pass fs l q).2.2 = false) {p : Nat} {i j c b : Int} (hf : fs[p]? = some (i, j, c)) (hb : l j = some b) : ∃ a, l i = some a ∧ a ≤ b + c := by
  have e := passTo_false h
  obtain ⟨a, ha, hl⟩ := pass_fact (q := q) hf hb
  have e' : (pass fs l q).1 = l := congrArg (·.1) e
  rw [e'] at ha
  exact ⟨a, ha, hl⟩
/-- a pass that changes something: somewhere a sum becomes smaller -/
theorem passTo_true {fs : List Fact} {l : Mp} {q : Pi} : ∀ {n : Nat}, (passTo fs l q n).2.2 = true → ∃ m, m < n ∧ ∃ i j c b, fs[m]? = some (i, j, c) ∧ (passTo fs l q m).1 j = some b ∧ (∀ a, (passTo fs l q m).1 i = some a → b + c < a)
  | 0, h => by cases h
  | n + 1, h => by
    rw [passTo_succ] at h
    rcases step_cases fs (passTo fs l q n) n with ⟨e, _⟩ | ⟨i, j, c, b, h1, h2, h3, e⟩
    · rw [e] at h
      obtain ⟨m, hm, z⟩ := passTo_true h
      exact ⟨m, by omega, z⟩
    · exact ⟨n, by omega, i, j, c, b, h1, h2, h3⟩

/-! ### walks -/
inductive Walk (fs : List Fact) : Int → Int → List Nat → Int → Prop where
  | nil (u : Int) : Walk fs u u [] 0
  | cons {u w v c s : Int} {p : Nat} {ps : List Nat} : fs[p]? = some (u, w, c) → Walk fs w v ps s → Walk fs u v (p :: ps) (c + s)
theorem Walk.sat {fs : List Fact} {x : Int → Int} (hx : ∀ f ∈ fs, Sat x f) {u v s : Int} {ps : List Nat} (h : Walk fs u v ps s) : x u ≤ x v + s := by
  induction h with
  | nil => omega
  | cons hf _ ih =>
    have := hx _ (List.mem_of_getElem? hf)
    unfold Sat at this
    simp only at this
    omega
theorem Walk.append {fs : List Fact} {u v w s t : Int} {ps qs : List Nat} (h : Walk fs u v ps s) (k : Walk fs v w qs t) : Walk fs u w (ps ++ qs) (s + t) := by
  induction h with
  | nil => simpa using k
  | cons hf _ ih => rw [Int.add_assoc]; exact .cons hf (ih k)
/-- rounds -/
def rounds (fs : List Fact) : Nat → Mp × Pi → Mp × Pi
  | 0, s => s
  | n + 1, s => let t := rounds fs n s; ((pass fs t.1 t.2).1, (pass fs t.1 t.2).2.1)
theorem rounds_walk {fs : List Fact} {l : Mp} {q : Pi} {v b : Int} (hb : l v = some b) : ∀ (n : Nat) {u s : Int} {ps : List Nat}, Walk fs u v ps s → ps.length ≤ n → ∃ a, (rounds fs n (l, q)).1 u = some a ∧ a ≤ s + b
  | 0, u, s, ps, h, hl => by
    cases h with
    | nil => exact ⟨b, hb, by omega⟩
    | cons _ _ => simp at hl
  | n + 1, u, s, ps, h, hl => by
    cases h with
    | nil =>
      obtain ⟨a, ha, e⟩ := rounds_walk hb n (.nil v) (Nat.zero_le _)
      obtain ⟨a', ha', e'⟩ := passTo_le fs (rounds fs n (l, q)).1 (rounds fs n (l, q)).2 0 fs.length (Nat.zero_le _) v a ha
      exact ⟨a', ha', by omega⟩
    | cons hf hw =>
      obtain ⟨a, ha, e⟩ := rounds_walk hb n hw (by simpa using hl)
      obtain ⟨a', ha', e'⟩ := pass_fact (q := (rounds fs n (l, q)).2) hf ha
      exact ⟨a', ha', by omega⟩
theorem rounds_inv {fs : List Fact} (P : Mp → Pi → Prop) (hu : ∀ l q p i j c b, fs[p]? = some (i, j, c) → l j = some b → (∀ a, l i = some a → b + c < a) → P l q → P (upd l i (b + c)) (upd q i p))
    {s : Mp × Pi} (h : P s.1 s.2) : ∀ n, P (rounds fs n s).1 (rounds fs n s).2
  | 0 => h
  | n + 1 => pass_inv P hu (rounds_inv P hu h n)

/-! ### the way back -/
/-- along the last facts -/
inductive Back (fs : List Fact) (q : Pi) : Int → Int → List Nat → Int → Prop where
  | nil (u : Int) : Back fs q u u [] 0
  | cons {u w v c s : Int} {p : Nat} {ps : List Nat} : q u = some p → fs[p]? = some (u, w, c) → Back fs q w v ps s → Back fs q u v (p :: ps) (c + s)
theorem Back.walk {fs : List Fact} {q : Pi} {u v s : Int} {ps : List Nat} (h : Back fs q u v ps s) : Walk fs u v ps s := by
  induction h with
  | nil => exact .nil _
  | cons _ hf _ ih => exact .cons hf ih
theorem Back.append {fs : List Fact} {q : Pi} {u v w s t : Int} {ps qs : List Nat} (h : Back fs q u v ps s) (k : Back fs q v w qs t) : Back fs q u w (ps ++ qs) (s + t) := by
  induction h with
  | nil => simpa using k
  | cons hq hf _ ih => rw [Int.add_assoc]; exact .cons hq hf (ih k)
/-- each last fact: its sum was right when it came -/
def InvA (fs : List Fact) (l : Mp) (q : Pi) : Prop := ∀ u p, q u = some p → ∃ w c a b, fs[p]? = some (u, w, c) ∧ l u = some a ∧ l w = some b ∧ b + c ≤ a
/-- each way back to where it began has a sum below 0 -/
def InvN (fs : List Fact) (q : Pi) : Prop := ∀ u ps s, Back fs q u u ps s → ps ≠ [] → s < 0
theorem invA_upd {fs : List Fact} {l : Mp} {q : Pi} {p : Nat} {i j c b : Int} (hf : fs[p]? = some (i, j, c)) (hj : l j = some b) (hi : ∀ a, l i = some a → b + c < a) (h : InvA fs l q) : InvA fs (upd l i (b + c)) (upd q i p) := by
  intro u p' hq
  by_cases hu : u = i
  · subst hu
    rw [upd_same] at hq; cases hq
    by_cases hji : j = u
    · subst hji
      have := hi b hj
      exact ⟨j, c, b + c, b + c, hf, upd_same, upd_same, by omega⟩
    · exact ⟨j, c, b + c, b, hf, upd_same, by rw [upd_ne hji]; exact hj, Int.le_refl _⟩
  · rw [upd_ne hu] at hq
    obtain ⟨w, c', a, b', h1, h2, h3, h4⟩ := h u p' hq
    by_cases hw : w = i
    · subst hw
      have := hi b' h3
      exact ⟨w, c', a, b + c, h1, by rw [upd_ne hu]; exact h2, upd_same, by omega⟩
    · exact ⟨w, c', a, b', h1, by rw [upd_ne hu]; exact h2, by rw [upd_ne hw]; exact h3, h4⟩
theorem back_le {fs : List Fact} {l : Mp} {q : Pi} (h : InvA fs l q) {u v s : Int} {ps : List Nat} (k : Back fs q u v ps s) : ∀ {b : Int}, l v = some b → ∃ a, l u = some a ∧ b + s ≤ a := by
  induction k with
  | nil => intro b hb; exact ⟨b, hb, by omega⟩
  | cons hq hf _ ih =>
    intro b hb
    obtain ⟨a1, h1, e1⟩ := ih hb
    obtain ⟨w, c, a, b', h2, h3, h4, h5⟩ := h _ _ hq
    rw [hf] at h2; cases h2
    rw [h1] at h4; cases h4
    exact ⟨a, h3, by omega⟩
/-- a way back ends where a sum stands -/
theorem back_end {fs : List Fact} {l : Mp} {q : Pi} (h : InvA fs l q) {u v s : Int} {ps : List Nat} (k : Back fs q u v ps s) (hp : ps ≠ []) : ∃ b, l v = some b := by
  induction k with
  | nil => exact (hp rfl).elim
  | @cons u w v c s p ps hq hf k ih =>
    obtain ⟨w', c', a, b', h2, h3, h4, h5⟩ := h _ _ hq
    rw [hf] at h2; cases h2
    cases k with
    | nil => exact ⟨b', h4⟩
    | cons _ _ _ => exact ih (by simp)
/-- a way along the new last facts: an old one, or first an old one to i, then the new fact -/
theorem back_split {fs : List Fact} {q : Pi} {p : Nat} {i j c : Int} (hf : fs[p]? = some (i, j, c)) {u v s : Int} {ps : List Nat} (k : Back fs (upd q i p) u v ps s) :
    Back fs q u v ps s ∨ ∃ ps1 s1 ps2 s2, Back fs q u i ps1 s1 ∧ Back fs (upd q i p) u i ps1 s1 ∧ Back fs (upd q i p) j v ps2 s2 ∧ ps = ps1 ++ p :: ps2 ∧ s = s1 + (c + s2) := by
  induction k with
  | nil => exact .inl (.nil _)
  | @cons u w v c' s p' ps hq hf' k ih =>
    by_cases hu : u = i
    · subst hu
      rw [upd_same] at hq; cases hq
      rw [hf] at hf'; cases hf'
      exact .inr ⟨[], 0, ps, s, .nil _, .nil _, k, rfl, by omega⟩
    · have hq' := hq
      rw [upd_ne hu] at hq
      rcases ih with ih | ⟨ps1, s1, ps2, s2, h1, h1', h2, rfl, rfl⟩
      · exact .inl (.cons hq hf' ih)
      · exact .inr ⟨p' :: ps1, c' + s1, ps2, s2, .cons hq hf' h1, .cons hq' hf' h1', h2, rfl, by omega⟩
theorem invN_upd {fs : List Fact} {l : Mp} {q : Pi} {p : Nat} {i j c b : Int} (hf : fs[p]? = some (i, j, c)) (hj : l j = some b) (hi : ∀ a, l i = some a → b + c < a) (hA : InvA fs l q) (h : InvN fs q) : InvN fs (upd q i p) := by
  -- from j to i along old facts
  have old : ∀ ps t, Back fs q j i ps t → c + t < 0 := fun ps t k => by
    by_cases hp : ps = []
    · subst hp
      cases k
      have := hi b hj
      omega
    · obtain ⟨a, ha⟩ := back_end hA k hp
      obtain ⟨b', hb', e⟩ := back_le hA k ha
      rw [hj] at hb'; cases hb'
      have := hi a ha
      omega
  -- from j to i along new facts
  have new : ∀ (n : Nat) ps t, ps.length ≤ n → Back fs (upd q i p) j i ps t → c + t < 0 := by
    intro n
    induction n with
    | zero =>
      intro ps t hl k
      cases k with
      | nil => exact old [] 0 (.nil _)
      | cons _ _ _ => simp at hl
    | succ n ih =>
      intro ps t hl k
      rcases back_split hf k with k | ⟨ps1, s1, ps2, s2, h1, _, h2, rfl, rfl⟩
      · exact old _ _ k
      · have e1 := old _ _ h1
        have e2 := ih ps2 s2 (by simp at hl; omega) h2
        omega
  intro u ps s k hp
  rcases back_split hf k with k | ⟨ps1, s1, ps2, s2, h1, h1', h2, rfl, rfl⟩
  · exact h u ps s k hp
  · have := new _ _ _ (Nat.le_refl _) (h2.append h1')
    omega
end BF
end

section
/-! BF2: rounds that end, and rounds that don't. -/
namespace BF
/-! ### no more names than there are -/
theorem erase_len {α : Type} [DecidableEq α] {x : α} : ∀ {l : List α}, x ∈ l → (l.erase x).length + 1 = l.length
  | y :: l, h => by
    rw [List.erase_cons]
    by_cases e : y = x
    · simp [e]
    · have : x ∈ l := by
        rcases List.mem_cons.mp h with h | h
        · exact (e h.symm).elim
        · exact h
      simp [e, erase_len this]
theorem nodup_le {α : Type} [DecidableEq α] : ∀ {xs U : List α}, xs.Nodup → (∀ x ∈ xs, x ∈ U) → xs.length ≤ U.length
  | [], _, _, _ => Nat.zero_le _
  | x :: xs, U, hn, hs => by
    obtain ⟨h1, h2⟩ := List.nodup_cons.mp hn
    have := erase_len (hs x List.mem_cons_self)
    have ih := nodup_le (U := U.erase x) h2 (fun y hy => by
      have ne : y ≠ x := fun e => h1 (e ▸ hy)
      exact (List.mem_erase_of_ne ne).mpr (hs y (List.mem_cons_of_mem _ hy)))
    rw [List.length_cons]; omega
/-- a row with a name twice -/
theorem twice {α : Type} [DecidableEq α] : ∀ {xs : List α}, ¬ xs.Nodup → ∃ a y b c, xs = a ++ y :: b ++ y :: c
  | [], h => (h List.nodup_nil).elim
  | x :: xs, h => by
    by_cases hx : x ∈ xs
    · obtain ⟨b, c, e⟩ := List.append_of_mem hx
      exact ⟨[], x, b, c, by simp [e]⟩
    · have : ¬ xs.Nodup := fun z => h (List.nodup_cons.mpr ⟨hx, z⟩)
      obtain ⟨a, y, b, c, e⟩ := twice this
      exact ⟨x :: a, y, b, c, by simp [e]⟩
/-- a walk with the names that it leaves -/
inductive WalkN (fs : List Fact) : Int → Int → List Nat → List Int → Int → Prop where
  | nil (u : Int) : WalkN fs u u [] [] 0
  | cons {u w v c s : Int} {p : Nat} {ps : List Nat} {ns : List Int} : fs[p]? = some (u, w, c) → WalkN fs w v ps ns s → WalkN fs u v (p :: ps) (u :: ns) (c + s)
theorem Walk.named {fs : List Fact} {u v s : Int} {ps : List Nat} (h : Walk fs u v ps s) : ∃ ns, WalkN fs u v ps ns s := by
  induction h with
  | nil => exact ⟨[], .nil _⟩
  | cons hf _ ih => obtain ⟨ns, h⟩ := ih; exact ⟨_, .cons hf h⟩
theorem WalkN.walk {fs : List Fact} {u v s : Int} {ps : List Nat} {ns : List Int} (h : WalkN fs u v ps ns s) : Walk fs u v ps s := by
  induction h with
  | nil => exact .nil _
  | cons hf _ ih => exact .cons hf ih
theorem WalkN.len {fs : List Fact} {u v s : Int} {ps : List Nat} {ns : List Int} (h : WalkN fs u v ps ns s) : ns.length = ps.length := by
  induction h with
  | nil => rfl
  | cons hf _ ih => simp [ih]
theorem WalkN.split {fs : List Fact} : ∀ {a b : List Int} {u v s : Int} {ps : List Nat} {y : Int}, WalkN fs u v ps (a ++ y :: b) s → ∃ ps1 s1 ps2 s2, WalkN fs u y ps1 a s1 ∧ WalkN fs y v ps2 (y :: b) s2 ∧ ps = ps1 ++ ps2 ∧ s = s1 + s2
  | [], b, u, v, s, ps, y, h => by
    cases h with
    | cons hf k => exact ⟨[], 0, _, _, .nil _, .cons hf k, rfl, by omega⟩
  | x :: a, b, u, v, s, ps, y, h => by
    cases h with
    | cons hf k =>
      obtain ⟨ps1, s1, ps2, s2, h1, h2, rfl, rfl⟩ := WalkN.split k
      exact ⟨_ :: ps1, _, ps2, s2, .cons hf h1, h2, rfl, by omega⟩
/-- the names of the facts -/
def Names (fs : List Fact) (U : List Int) : Prop := ∀ f ∈ fs, f.1 ∈ U ∧ f.2.1 ∈ U
theorem WalkN.mem {fs : List Fact} {U : List Int} (hU : Names fs U) {u v s : Int} {ps : List Nat} {ns : List Int} (h : WalkN fs u v ps ns s) : ∀ x ∈ ns, x ∈ U := by
  induction h with
  | nil => intro x hx; cases hx
  | cons hf _ ih =>
    intro x hx
    rcases List.mem_cons.mp hx with rfl | hx
    · exact (hU _ (List.mem_of_getElem? hf)).1
    · exact ih x hx
/-- the facts have whole numbers -/
def Feas (fs : List Fact) : Prop := ∃ x : Int → Int, ∀ f ∈ fs, Sat x f
theorem Feas.cycle {fs : List Fact} (h : Feas fs) {u s : Int} {ps : List Nat} (k : Walk fs u u ps s) : 0 ≤ s := by
  obtain ⟨x, hx⟩ := h
  have := k.sat hx
  omega
theorem walkN_end {fs : List Fact} {U : List Int} (hU : Names fs U) {u v s : Int} {ps : List Nat} {ns : List Int} (h : WalkN fs u v ps ns s) : u ∈ U → v ∈ U := by
  induction h with
  | nil => exact id
  | cons hf _ ih => exact fun _ => ih (hU _ (List.mem_of_getElem? hf)).2
/-- where the facts have numbers, a walk has a short one that is no worse -/
theorem shorten {fs : List Fact} {U : List Int} (hU : Names fs U) (hF : Feas fs) : ∀ (n : Nat) {u v s : Int} {ps : List Nat}, ps.length ≤ n → u ∈ U → Walk fs u v ps s → ∃ ps' s', Walk fs u v ps' s' ∧ s' ≤ s ∧ ps'.length < U.length
  | 0, u, v, s, ps, hl, hu, h => ⟨ps, s, h, Int.le_refl _, by have := List.length_pos_of_mem hu; omega⟩
  | n + 1, u, v, s, ps, hl, hu, h => by
    by_cases hle : ps.length < U.length
    · exact ⟨ps, s, h, Int.le_refl _, hle⟩
    · obtain ⟨ns, hn⟩ := h.named
      by_cases hv : v ∈ ns
      · obtain ⟨a, b, rfl⟩ := List.append_of_mem hv
        obtain ⟨ps1, s1, ps2, s2, h1, h2, rfl, rfl⟩ := hn.split
        have hc := hF.cycle h2.walk
        have l2 : ps2.length = b.length + 1 := by rw [← h2.len]; simp
        obtain ⟨ps', s', k1, k2, k3⟩ := shorten hU hF n (by simp at hl ⊢; omega) hu h1.walk
        exact ⟨ps', s', k1, by omega, k3⟩
      · have : ¬ ns.Nodup := fun nd => by
          have nd2 : (v :: ns).Nodup := List.nodup_cons.mpr ⟨hv, nd⟩
          have := nodup_le nd2 (U := U) (fun x hx => by
            rcases List.mem_cons.mp hx with rfl | hx
            · exact walkN_end hU hn hu
            · exact hn.mem hU x hx)
          rw [List.length_cons, hn.len] at this; omega
        obtain ⟨a, y, b, c, e⟩ := twice this
        subst e
        obtain ⟨ps1, s1, ps2, s2, h1, h2, rfl, rfl⟩ := WalkN.split (a := a) (b := b ++ y :: c) (by simpa using hn)
        obtain ⟨ps3, s3, ps4, s4, h3, h4, rfl, rfl⟩ := WalkN.split (a := y :: b) (b := c) h2
        have hc := hF.cycle h3.walk
        have l3 : ps3.length = b.length + 1 := by rw [← h3.len]; simp
        obtain ⟨ps', s', k1, k2, k3⟩ := shorten hU hF n (by simp at hl ⊢; omega) hu (h1.walk.append h4.walk)
        exact ⟨ps', s', k1, by omega, k3⟩
/-- a way back with the names that it leaves -/
inductive BackN (fs : List Fact) (q : Pi) : Int → Int → List Nat → List Int → Int → Prop where
  | nil (u : Int) : BackN fs q u u [] [] 0
  | cons {u w v c s : Int} {p : Nat} {ps : List Nat} {ns : List Int} : q u = some p → fs[p]? = some (u, w, c) → BackN fs q w v ps ns s → BackN fs q u v (p :: ps) (u :: ns) (c + s)
theorem BackN.back {fs : List Fact} {q : Pi} {u v s : Int} {ps : List Nat} {ns : List Int} (h : BackN fs q u v ps ns s) : Back fs q u v ps s := by
  induction h with
  | nil => exact .nil _
  | cons hq hf _ ih => exact .cons hq hf ih
theorem BackN.walkN {fs : List Fact} {q : Pi} {u v s : Int} {ps : List Nat} {ns : List Int} (h : BackN fs q u v ps ns s) : WalkN fs u v ps ns s := by
  induction h with
  | nil => exact .nil _
  | cons hq hf _ ih => exact .cons hf ih
theorem BackN.snoc {fs : List Fact} {q : Pi} {u v w s c : Int} {p : Nat} {ps : List Nat} {ns : List Int} (h : BackN fs q u v ps ns s) (hq : q v = some p) (hf : fs[p]? = some (v, w, c)) : BackN fs q u w (ps ++ [p]) (ns ++ [v]) (s + c) := by
  induction h with
  | nil =>
    have := BackN.cons hq hf (.nil w)
    simpa [Int.add_comm] using this
  | cons hq' hf' _ ih => rw [Int.add_assoc]; exact .cons hq' hf' (ih hq hf)
theorem BackN.split {fs : List Fact} {q : Pi} : ∀ {a b : List Int} {u v s : Int} {ps : List Nat} {y : Int}, BackN fs q u v ps (a ++ y :: b) s → ∃ ps1 s1 ps2 s2, BackN fs q u y ps1 a s1 ∧ BackN fs q y v ps2 (y :: b) s2 ∧ ps = ps1 ++ ps2 ∧ s = s1 + s2
  | [], b, u, v, s, ps, y, h => by
    cases h with
    | cons hq hf k => exact ⟨[], 0, _, _, .nil _, .cons hq hf k, rfl, by omega⟩
  | x :: a, b, u, v, s, ps, y, h => by
    cases h with
    | cons hq hf k =>
      obtain ⟨ps1, s1, ps2, s2, h1, h2, rfl, rfl⟩ := BackN.split k
      exact ⟨_ :: ps1, _, ps2, s2, .cons hq hf h1, h2, rfl, by omega⟩
/-- the way back is the only one -/
theorem Back.front {fs : List Fact} {q : Pi} {u v s : Int} {p : Nat} {ps : List Nat} (h : Back fs q u v (p :: ps) s) : ∃ w c t, q u = some p ∧ fs[p]? = some (u, w, c) ∧ Back fs q w v ps t ∧ s = c + t := by
  cases h with
  | cons hq hf k => exact ⟨_, _, _, hq, hf, k, rfl⟩
theorem Back.snoc {fs : List Fact} {q : Pi} {u v w s c : Int} {p : Nat} {ps : List Nat} (h : Back fs q u v ps s) (hq : q v = some p) (hf : fs[p]? = some (v, w, c)) : Back fs q u w (ps ++ [p]) (s + c) := by
  have := h.append (.cons hq hf (.nil w))
  simpa [Int.add_comm] using this
/-! ### sums are sums of walks -/
def InvW (fs : List Fact) (l0 l : Mp) : Prop := ∀ u a, l u = some a → ∃ v ps s b, Walk fs u v ps s ∧ l0 v = some b ∧ a = s + b
theorem invW_upd {fs : List Fact} {l0 l : Mp} {p : Nat} {i j c b : Int} (hf : fs[p]? = some (i, j, c)) (hj : l j = some b) (h : InvW fs l0 l) : InvW fs l0 (upd l i (b + c)) := by
  intro u a hu
  by_cases e : u = i
  · subst e
    rw [upd_same] at hu; cases hu
    obtain ⟨v, ps, s, b', h1, h2, h3⟩ := h j b hj
    exact ⟨v, p :: ps, c + s, b', .cons hf h1, h2, by omega⟩
  · rw [upd_ne e] at hu
    exact h u a hu
/-- where the facts have numbers, so many rounds are enough -/
theorem rounds_stop {fs : List Fact} {U : List Int} (hU : Names fs U) (hF : Feas fs) {l : Mp} {q : Pi} {n : Nat} (hn : U.length ≤ n + 1) :
    (pass fs (rounds fs n (l, q)).1 (rounds fs n (l, q)).2).2.2 = false := by
  cases hc : (pass fs (rounds fs n (l, q)).1 (rounds fs n (l, q)).2).2.2 with
  | false => rfl
  | true =>
    obtain ⟨m, hm, i, j, c, b, h1, h2, h3⟩ := passTo_true hc
    have w0 : InvW fs l l := fun u a h => ⟨u, [], 0, a, .nil _, h, by omega⟩
    have w1 : InvW fs l (rounds fs n (l, q)).1 := rounds_inv (s := (l, q)) (fun x _ => InvW fs l x) (fun x _ p i j c b h1 h2 _ h => invW_upd h1 h2 h) w0 n
    have w2 : InvW fs l (passTo fs (rounds fs n (l, q)).1 (rounds fs n (l, q)).2 m).1 := passTo_inv (fun x _ => InvW fs l x) (fun x _ p i j c b h1 h2 _ h => invW_upd h1 h2 h) w1 m
    obtain ⟨v, ps, s, b0, k1, k2, rfl⟩ := w2 j b h2
    obtain ⟨ps', s', k3, k4, k5⟩ := shorten hU hF _ (Nat.le_refl _) (hU _ (List.mem_of_getElem? h1)).1 (Walk.cons h1 k1)
    obtain ⟨a, ha, e⟩ := rounds_walk (q := q) k2 n k3 (by omega)
    obtain ⟨a', ha', e'⟩ := passTo_le fs (rounds fs n (l, q)).1 (rounds fs n (l, q)).2 0 m (Nat.zero_le _) i a ha
    have := h3 a' ha'
    omega
/-- a round that changes something: somewhere a sum is smaller behind it -/
theorem pass_drop {fs : List Fact} {l : Mp} {q : Pi} (h : (pass fs l q).2.2 = true) (hl : ∀ f ∈ fs, ∃ a, l f.1 = some a) : ∃ f ∈ fs, ∃ a a', l f.1 = some a ∧ (pass fs l q).1 f.1 = some a' ∧ a' < a := by
  obtain ⟨m, hm, i, j, c, b, h1, h2, h3⟩ := passTo_true h
  have hf := List.mem_of_getElem? h1
  obtain ⟨a, ha⟩ := hl _ hf
  obtain ⟨a1, ha1, e1⟩ := passTo_le fs l q 0 m (Nat.zero_le _) i a ha
  have lt := h3 a1 ha1
  have mid : ∃ a2, (passTo fs l q (m + 1)).1 i = some a2 ∧ a2 ≤ b + c := by
    rw [passTo_succ]
    rcases step_cases fs (passTo fs l q m) m with ⟨e, k⟩ | ⟨i', j', c', b', k1, k2, k3, e⟩
    · rw [e]; exact k i j c b h1 h2
    · rw [h1] at k1; cases k1
      rw [h2] at k2; cases k2
      rw [e]; exact ⟨_, upd_same, Int.le_refl _⟩
  obtain ⟨a2, ha2, e2⟩ := mid
  obtain ⟨a3, ha3, e3⟩ := passTo_le fs l q (m + 1) fs.length (by omega) i a2 ha2
  exact ⟨_, hf, a, a3, ha, ha3, by omega⟩
/-- a round that changes nothing, where all names have sums: the facts have numbers -/
theorem feas_of {fs : List Fact} {U : List Int} (hU : Names fs U) {l : Mp} {q : Pi} (hl : ∀ u ∈ U, ∃ a, l u = some a) (h : (pass fs l q).2.2 = false) : ∀ f ∈ fs, Sat (fun u => (l u).getD 0) f := by
  intro f hf
  obtain ⟨i, j, c⟩ := f
  obtain ⟨p, hp⟩ := List.mem_iff_getElem?.mp hf
  obtain ⟨b, hb⟩ := hl j (hU _ hf).2
  obtain ⟨a, ha, e⟩ := pass_stable h hp hb
  show (l i).getD 0 ≤ (l j).getD 0 + c
  rw [ha, hb]
  exact e
theorem rounds_le (fs : List Fact) (s : Mp × Pi) : ∀ n, Le s.1 (rounds fs n s).1
  | 0 => .refl _
  | n + 1 => (rounds_le fs s n).trans (passTo_le fs _ _ 0 fs.length (Nat.zero_le _))
/-! ### the sums that began with 0 -/
/-- a name without a last fact has its first sum -/
def InvZ (l0 l : Mp) (q : Pi) : Prop := ∀ u, q u = none → l u = l0 u
theorem invZ_upd {l0 l : Mp} {q : Pi} {i v : Int} {p : Nat} (h : InvZ l0 l q) : InvZ l0 (upd l i v) (upd q i p) := fun u hu => by
  by_cases e : u = i
  · subst e; rw [upd_same] at hu; cases hu
  · rw [upd_ne e] at hu ⊢; exact h u hu
/-- all is as it must be behind n rounds from sums 0, and one more: from a name that became smaller there is a last fact all along -/
theorem root_free {fs : List Fact} {U : List Int} {l0 : Mp} (hz : ∀ u a, l0 u = some a → a = 0) {n : Nat} (hn : n = U.length) {x a a' : Int}
    (ha : (rounds fs n (l0, fun _ => none)).1 x = some a) (ha' : (rounds fs (n + 1) (l0, fun _ => none)).1 x = some a') (hlt : a' < a)
    {v s : Int} {ps : List Nat} (k : Back fs (rounds fs (n + 1) (l0, fun _ => none)).2 x v ps s) (hl : ps.length ≤ n) : ∃ p, (rounds fs (n + 1) (l0, fun _ => none)).2 v = some p := by
  cases hq : (rounds fs (n + 1) (l0, fun _ => none)).2 v with
  | some p => exact ⟨p, rfl⟩
  | none =>
    exfalso
    have A : InvA fs (rounds fs (n + 1) (l0, fun _ => none)).1 (rounds fs (n + 1) (l0, fun _ => none)).2 := rounds_inv (s := (l0, fun _ => none)) (InvA fs) (fun l q p i j c b h1 h2 h3 h => invA_upd h1 h2 h3 h) (fun u p h => by cases h) (n + 1)
    have Z : InvZ l0 (rounds fs (n + 1) (l0, fun _ => none)).1 (rounds fs (n + 1) (l0, fun _ => none)).2 := rounds_inv (s := (l0, fun _ => none)) (InvZ l0) (fun l q p i j c b _ _ _ h => invZ_upd h) (fun u _ => rfl) (n + 1)
    have ev : ∃ b, (rounds fs (n + 1) (l0, fun _ => none)).1 v = some b := by
      by_cases hp : ps = []
      · subst hp; cases k; exact ⟨a', ha'⟩
      · exact back_end A k hp
    obtain ⟨b, hb⟩ := ev
    obtain ⟨a2, h2, e2⟩ := back_le A k hb
    rw [ha'] at h2; cases h2
    have hb0 : l0 v = some b := by rw [← Z v hq]; exact hb
    have b0 := hz v b hb0
    obtain ⟨a3, h3, e3⟩ := rounds_walk (fs := fs) (q := fun _ => none) hb0 n k.walk hl
    rw [ha] at h3; cases h3
    omega
theorem inv_rounds {fs : List Fact} {l0 : Mp} (n : Nat) : InvA fs (rounds fs n (l0, fun _ => none)).1 (rounds fs n (l0, fun _ => none)).2 ∧ InvN fs (rounds fs n (l0, fun _ => none)).2 := by
  refine rounds_inv (fs := fs) (s := (l0, fun _ => none)) (fun l q => InvA fs l q ∧ InvN fs q) (fun l q p i j c b h1 h2 h3 ⟨hA, hN⟩ => ⟨invA_upd h1 h2 h3 hA, invN_upd h1 h2 h3 hA hN⟩) ⟨?_, ?_⟩ n
  · intro u p h; cases h
  · intro u ps s k hp
    cases k with
    | nil => exact (hp rfl).elim
    | cons h _ _ => cases h
/-- behind rounds from {j: 0}: each name with a sum is j or has a last fact -/
theorem last_there {fs : List Fact} {j : Int} (n : Nat) : ∀ u a, (rounds fs n (upd (fun _ => none) j 0, fun _ => none)).1 u = some a → u = j ∨ ∃ p, (rounds fs n (upd (fun _ => none) j 0, fun _ => none)).2 u = some p := by
  refine rounds_inv (fs := fs) (s := (upd (fun _ => none) j 0, fun _ => none)) (fun l q => ∀ u a, l u = some a → u = j ∨ ∃ p, q u = some p) (fun l q p i j' c b h1 h2 h3 h u a hu => ?_) (fun u a hu => ?_) n
  · by_cases e : u = i
    · subst e; exact .inr ⟨p, upd_same⟩
    · rw [upd_ne e] at hu ⊢; exact h u a hu
  · by_cases e : u = j
    · exact .inl e
    · simp only [upd_ne e] at hu; cases hu
end BF
end

section
/-! SpF: what the defs of facts.py compute: dicts, is_integer, unknowns_of, relaxed. -/
namespace Sp
open Mi Sem BF
open PySem (PyData Str)

/-! ### heaps -/
theorem app_get {h l : Hh} {k : Nat} : (h ++ l)[h.length + k]? = l[k]? := by
  rw [List.getElem?_append_right (by omega)]; congr 1; omega
theorem app_get0 {h l : Hh} : (h ++ l)[h.length]? = l[0]? := app_get (k := 0)
theorem app_set {h l : Hh} {k : Nat} {o : O} : (h ++ l).set (h.length + k) o = h ++ l.set k o := by
  rw [List.set_append_right _ _ (by omega)]; congr 2; omega
theorem app_set0 {h l : Hh} {o : O} : (h ++ l).set h.length o = h ++ l.set 0 o := app_set (k := 0)

/-! ### dicts with numbers for keys -/
section
variable {α : Type}
def encM (e : α → W) (m : List (Int × α)) : O := .dk (m.map fun p => (.inl p.1, e p.2))
def dlook (m : List (Int × α)) (k : Int) : Option α := (m.find? fun p => decide (p.1 = k)).map (·.2)
def dput (m : List (Int × α)) (k : Int) (v : α) : List (Int × α) := if m.any (fun p => decide (p.1 = k)) then m.map fun p => if p.1 = k then (p.1, v) else p else m ++ [(k, v)]
theorem look_enc (e : α → W) (m : List (Int × α)) (k : Int) : look (m.map fun p => ((.inl p.1 : Key), e p.2)) (.inl k) = (dlook m k).map e := by
  unfold look dlook
  induction m with
  | nil => rfl
  | cons p m ih =>
    simp only [List.map_cons, List.find?_cons]
    by_cases h : p.1 = k
    · simp [h]
    · simp only [h, decide_false, Sum.inl.injEq]
      exact ih
theorem put_enc (e : α → W) (m : List (Int × α)) (k : Int) (v : α) : put (m.map fun p => ((.inl p.1 : Key), e p.2)) (.inl k) (e v) = (dput m k v).map fun p => ((.inl p.1 : Key), e p.2) := by
  unfold put dput
  simp only [List.any_map, Function.comp_def, Sum.inl.injEq]
  split
  · simp only [List.map_map, Function.comp_def, Sum.inl.injEq]
    refine List.map_congr_left fun p _ => ?_
    split <;> rfl
  · simp
theorem dlook_cons (k v : _) (m : List (Int × α)) (x : Int) : dlook ((k, v) :: m) x = if x = k then some v else dlook m x := by
  unfold dlook
  rw [List.find?_cons]
  by_cases h : x = k
  · subst h; simp
  · have : ¬ k = x := fun e => h e.symm
    simp [h, this]
theorem dlook_none {m : List (Int × α)} {k : Int} : dlook m k = none ↔ k ∉ m.map (·.1) := by
  induction m with
  | nil => simp [dlook]
  | cons p m ih =>
    obtain ⟨a, v⟩ := p
    rw [dlook_cons, List.map_cons, List.mem_cons]
    by_cases h : k = a
    · subst h; simp
    · simp [h, ih]
theorem any_key {m : List (Int × α)} {k : Int} : (m.any fun p => decide (p.1 = k)) = (dlook m k).isSome := by
  induction m with
  | nil => rfl
  | cons p m ih =>
    obtain ⟨a, v⟩ := p
    rw [dlook_cons, List.any_cons, ih]
    by_cases h : k = a
    · subst h; simp
    · have : ¬ a = k := fun e => h e.symm
      simp [h, this]
theorem dlook_dput (m : List (Int × α)) (k : Int) (v : α) : dlook (dput m k v) = upd (dlook m) k v := by
  funext x
  unfold dput
  rw [any_key]
  cases hk : dlook m k with
  | some w =>
    simp only [Option.isSome_some, if_true]
    have go : ∀ m : List (Int × α), dlook (m.map fun p => if p.1 = k then (p.1, v) else p) x = if x = k then (dlook m k).map fun _ => v else dlook m x := by
      intro m
      induction m with
      | nil => simp [dlook]
      | cons p m ih =>
        obtain ⟨a, u⟩ := p
        rw [List.map_cons]
        by_cases ha : a = k
        · subst ha
          simp only [if_true]
          rw [dlook_cons, dlook_cons, ih, dlook_cons]
          by_cases hx : x = a
          · simp [hx]
          · simp [hx]
        · simp only [ha, if_false]
          rw [dlook_cons, dlook_cons, ih, dlook_cons]
          by_cases hx : x = k
          · subst hx
            have : ¬ x = a := fun e => ha e.symm
            simp [this]
          · simp only [hx, if_false]
    rw [go, hk]
    simp [upd]
  | none =>
    simp only [Option.isSome_none, Bool.false_eq_true, if_false]
    have go : ∀ m : List (Int × α), dlook (m ++ [(k, v)]) x = (dlook m x).or (if x = k then some v else none) := by
      intro m
      induction m with
      | nil => rw [List.nil_append, dlook_cons]; simp [dlook]
      | cons p m ih =>
        obtain ⟨a, u⟩ := p
        rw [List.cons_append, dlook_cons, dlook_cons, ih]
        by_cases hx : x = a <;> simp [hx]
    rw [go]
    unfold upd
    by_cases hx : x = k
    · subst hx; simp [hk]
    · simp [hx]
/-- the keys are unlike, and among some names -/
def KeyOk (V : List Int) (m : List (Int × α)) : Prop := (m.map (·.1)).Nodup ∧ ∀ k ∈ m.map (·.1), k ∈ V
theorem KeyOk.nil {V : List Int} : KeyOk V ([] : List (Int × α)) := ⟨List.nodup_nil, fun k h => by simp at h⟩
theorem keys_dput (m : List (Int × α)) (k : Int) (v : α) : (dput m k v).map (·.1) = if k ∈ m.map (·.1) then m.map (·.1) else m.map (·.1) ++ [k] := by
  unfold dput
  rw [any_key]
  cases hk : dlook m k with
  | some w =>
    have : k ∈ m.map (·.1) := by
      rcases Decidable.em (k ∈ m.map (·.1)) with h | h
      · exact h
      · rw [dlook_none.mpr h] at hk; cases hk
    rw [if_pos this]
    simp only [Option.isSome_some, if_true, List.map_map]
    refine List.map_congr_left fun p _ => ?_
    simp only [Function.comp]
    split <;> rfl
  | none =>
    rw [if_neg (dlook_none.mp hk)]
    simp
theorem KeyOk.put {V : List Int} {m : List (Int × α)} (h : KeyOk V m) {k : Int} {v : α} (hk : k ∈ V) : KeyOk V (dput m k v) := by
  unfold KeyOk
  rw [keys_dput]
  split
  · exact h
  · rename_i hn
    refine ⟨?_, fun x hx => ?_⟩
    · rw [List.nodup_append]
      refine ⟨h.1, by simp, fun a ha b hb => ?_⟩
      simp at hb
      subst hb
      exact fun e => hn (e ▸ ha)
    · rcases List.mem_append.mp hx with hx | hx
      · exact h.2 x hx
      · simp at hx; rw [hx]; exact hk
theorem KeyOk.len {V : List Int} {m : List (Int × α)} (h : KeyOk V m) : m.length ≤ V.length := by
  have := nodup_le h.1 h.2
  simpa using this
theorem opIx_dk {e : α → W} {m : List (Int × α)} {k : Int} {v : α} {a : Nat} {M : Hh} (h : M[a]? = some (encM e m)) (hv : dlook m k = some v) : opIx (.ref a) (.d (.int k)) M = some (e v, M) := by
  simp [opIx, h, encM, dget, keyW, look_enc, hv]
theorem opIn_dk {neg : Bool} {e : α → W} {m : List (Int × α)} {k : Int} {a : Nat} {M : Hh} (h : M[a]? = some (encM e m)) : opInB neg (.d (.int k)) (.ref a) M = some (.bool (neg != (dlook m k).isSome), M) := by
  simp [opInB, h, encM, dget, keyW, look_enc]
theorem setIx_dk {e : α → W} {m : List (Int × α)} {k : Int} {v : α} {a : Nat} {M : Hh} (h : M[a]? = some (encM e m)) (hl : m.length < 16777216) : setIx (.ref a) (.d (.int k)) (e v) M = some (M.set a (encM e (dput m k v))) := by
  simp [setIx, h, encM, keyW, put_enc, hl]
end
/-- dicts of sums, of places -/
abbrev eI : Int → W := W.int
abbrev eN : Nat → W := fun n => W.int (n : Int)

/-! ### facts -/
def encF (f : Fact) : PyData := .tuple [.int f.1, .int f.2.1, .int f.2.2]
def encFs (fs : List Fact) : PyData := .tuple (fs.map encF)
@[simp] theorem items_F (f : Fact) : (W.d (encF f)).items = some [.int f.1, .int f.2.1, .int f.2.2] := (rfl)
@[simp] theorem items_Fs (fs : List Fact) : (W.d (encFs fs)).items = some (fs.map fun f => .d (encF f)) := by simp [encFs, W.items, Function.comp_def]
@[simp] theorem len_Fs (fs : List Fact) (M : Hh) : bLen [.d (encFs fs)] M = some (.int fs.length, M) := by simp [bLen, encFs, W.items]
theorem ix_Fs {fs : List Fact} {p : Nat} {f : Fact} {M : Hh} (h : fs[p]? = some f) : opIx (.d (encFs fs)) (.d (.int (p : Int))) M = some (.d (encF f), M) := opIx_tup (by simp [h])
@[simp] theorem ix_F0 (f : Fact) (M : Hh) : opIx (.d (encF f)) (.d (.int 0)) M = some (.int f.1, M) := opIx_tup (n := 0) rfl
@[simp] theorem ix_F1 (f : Fact) (M : Hh) : opIx (.d (encF f)) (.d (.int 1)) M = some (.int f.2.1, M) := opIx_tup (n := 1) rfl
@[simp] theorem ix_F2 (f : Fact) (M : Hh) : opIx (.d (encF f)) (.d (.int 2)) M = some (.int f.2.2, M) := opIx_tup (n := 2) rfl
@[simp] theorem add_int (i j : Int) (M : Hh) : opAdd (.d (.int i)) (.d (.int j)) M = some (.int (i + j), M) := (rfl)
@[simp] theorem sub_int (i j : Int) (M : Hh) : opSub (.d (.int i)) (.d (.int j)) M = some (.int (i - j), M) := (rfl)
@[simp] theorem neg_int (i : Int) (M : Hh) : opNeg (.d (.int i)) M = some (.int (-i), M) := (rfl)
@[simp] theorem cmp_int (f : Int → Int → Bool) (i j : Int) (M : Hh) : cmpI f (.d (.int i)) (.d (.int j)) M = some (.bool (f i j), M) := (rfl)
@[simp] theorem eq_int (neg : Bool) (i j : Int) (M : Hh) : opEqB neg (.d (.int i)) (.d (.int j)) M = some (.bool (neg != (i == j)), M) := by simp [opEqB, PyData.depth, PyData.eqv]

theorem is_integer_ok {w : W} {h : Hh} {t : String} (ht : tyW h w = some t) : m_is_integer [w] h = .ok (.bool (t == "int")) h := by
  unfold m_is_integer
  simp [fn, b_is_integer, isI, ht]
  by_cases h1 : t = "int"
  · subst h1; simp
  · by_cases h2 : t = "bool"
    · subst h2; simp
    · simp [h1, h2]

/-! ### unknowns_of -/
def add1 (U : List Int) (x : Int) : List Int := if x ∈ U then U else U ++ [x]
def unk (fs : List Fact) : List Int := fs.foldl (fun U f => add1 (add1 U f.1) f.2.1) [0]
theorem add1_nodup {U : List Int} {x : Int} (h : U.Nodup) : (add1 U x).Nodup := by
  unfold add1; split
  · exact h
  · rename_i hn
    rw [List.nodup_append]
    exact ⟨h, by simp, fun a ha b hb => by simp at hb; subst hb; exact fun e => hn (e ▸ ha)⟩
theorem mem_add1 {U : List Int} {x y : Int} : y ∈ add1 U x ↔ y ∈ U ∨ y = x := by
  unfold add1; split
  · rename_i h
    exact ⟨.inl, fun q => q.elim id fun e => e ▸ h⟩
  · simp
theorem unk_ok (fs : List Fact) : (unk fs).Nodup ∧ Names fs (unk fs) ∧ 0 ∈ unk fs ∧ (unk fs).length ≤ 2 * fs.length + 1 := by
  have go : ∀ (fs : List Fact) (U : List Int), U.Nodup → (fs.foldl (fun U f => add1 (add1 U f.1) f.2.1) U).Nodup ∧ (∀ x ∈ U, x ∈ fs.foldl (fun U f => add1 (add1 U f.1) f.2.1) U) ∧
      Names fs (fs.foldl (fun U f => add1 (add1 U f.1) f.2.1) U) ∧ (fs.foldl (fun U f => add1 (add1 U f.1) f.2.1) U).length ≤ 2 * fs.length + U.length := by
    intro fs
    induction fs with
    | nil => intro U h; exact ⟨h, fun x hx => hx, (fun f hf => by cases hf), by simp⟩
    | cons f fs ih =>
      intro U h
      obtain ⟨a, b, c, d⟩ := ih (add1 (add1 U f.1) f.2.1) (add1_nodup (add1_nodup h))
      refine ⟨a, fun x hx => b x (mem_add1.mpr (.inl (mem_add1.mpr (.inl hx)))), fun g hg => ?_, ?_⟩
      · rcases List.mem_cons.mp hg with rfl | hg
        · exact ⟨b _ (mem_add1.mpr (.inl (mem_add1.mpr (.inr rfl)))), b _ (mem_add1.mpr (.inr rfl))⟩
        · exact c g hg
      · have l1 : ∀ (U : List Int) x, (add1 U x).length ≤ U.length + 1 := fun U x => by unfold add1; split <;> simp
        have := l1 (add1 U f.1) f.2.1
        have := l1 U f.1
        rw [List.foldl_cons, List.length_cons]; omega
  obtain ⟨a, b, c, d⟩ := go fs [0] (by simp)
  exact ⟨a, c, b 0 (by simp), by unfold unk; simpa using d⟩
theorem any_eqv (xs : List Int) (x : Int) : ((xs.map PyData.int).any fun z => PyData.eqv z (.int x)) = decide (x ∈ xs) := by
  induction xs with
  | nil => simp
  | cons y ys ih =>
    rw [List.map_cons, List.any_cons, ih]
    simp only [PyData.eqv, List.mem_cons]
    by_cases h : x = y
    · subst h; simp
    · have : ¬ y = x := fun e => h e.symm
      simp [h, this]
theorem mapM_int (M : Hh) (n : Nat) (xs : List Int) : (xs.map W.int).mapM (dataW M n) = some (xs.map PyData.int) := by
  have : xs.map W.int = (xs.map PyData.int).map W.d := by simp
  rw [this, mapM_dataW_d]
theorem depthAll_int (xs : List Int) : PyData.depthAll (xs.map PyData.int) = 0 := by
  induction xs with
  | nil => rfl
  | cons x xs ih => rw [List.map_cons, PyData.depthAll, ih]; simp [PyData.depth]
theorem opIn_ints {neg : Bool} {xs : List Int} {x : Int} {a : Nat} {M : Hh} (h : M[a]? = some (.lst (xs.map W.int))) : opInB neg (.d (.int x)) (.ref a) M = some (.bool (neg != decide (x ∈ xs)), M) := by
  have e : dataW M dataDeep (.ref a) = some (.list (xs.map PyData.int)) := by
    show dataW M 5 (.ref a) = _
    unfold dataW
    rw [h]
    simp only [mapM_int, Option.map_some]
  simp only [opInB, h, e, dataW_d, PyData.depth, depthAll_int, any_eqv]
  simp
theorem app_int {xs : List Int} {x : Int} {a : Nat} {M : Hh} (h : M[a]? = some (.lst (xs.map W.int))) (hl : xs.length < 16777216) : mAppend [.ref a, .d (.int x)] M = some (.non, M.set a (.lst ((xs ++ [x]).map W.int))) := by
  simp [mAppend, h, hl]
theorem l1_unknowns {fs : List Fact} {h : Hh} (U : List Int) (x : Int) (x2 x3 x4 : Option W) (hl : U.length < 16777216) : l1_unknowns_of
      [some (.d (encFs fs)), some (.ref h.length), x2, x3, x4, some (.int x)] (h ++ [.lst (U.map W.int)]) = .nx [some (.d (encFs fs)), some (.ref h.length), x2, x3, x4, some (.int x)] (h ++ [.lst ((add1 U x).map W.int)]) := by
  have hg : (h ++ [O.lst (U.map W.int)])[h.length]? = some (.lst (U.map W.int)) := by simp
  simp [l1_unknowns_of, opIn_ints hg, isLst]
  by_cases hx : x ∈ U
  · simp [hx, add1]
  · simp [hx, add1, app_int hg hl]
theorem unknowns_ok {fs : List Fact} {h : Hh} (hn : fs.length < 4000000) : m_unknowns_of [.d (encFs fs)] h = .ok (.ref h.length) (h ++ [.lst ((unk fs).map W.int)]) := by
  obtain ⟨L2, h2, e, rfl, ⟨x2, x3, x4, x5, rfl⟩, hl⟩ := forL_all (ok := (Src.tp (fs.map fun f => .d (encF f))).ok) (g := .tp [2, 3, 4]) (body := l0_unknowns_of) (enc := fun f => W.d (encF f)) (xs := fs)
    (fun pre L h' => h' = h ++ [.lst ((pre.foldl (fun U f => add1 (add1 U f.1) f.2.1) [0]).map W.int)] ∧ (∃ x2 x3 x4 x5, L = [some (.d (encFs fs)), some (.ref h.length), x2, x3, x4, x5]) ∧
      (pre.foldl (fun U f => add1 (add1 U f.1) f.2.1) [0]).length ≤ 2 * pre.length + 1) (fun _ _ _ _ => trivial) (fun pre f post L h' hx ⟨e1, ⟨x2, x3, x4, x5, e2⟩, hl⟩ => by
      subst e1 e2
      have lp : pre.length < 4000000 := by rw [hx] at hn; simp at hn; omega
      have l1 : ∀ (U : List Int) x, (add1 U x).length ≤ U.length + 1 := fun U x => by unfold add1; split <;> simp
      generalize hU : pre.foldl (fun U f => add1 (add1 U f.1) f.2.1) [0] = U at hl ⊢
      have l2 := l1 U f.1
      have l3 := l1 (add1 U f.1) f.2.1
      refine ⟨_, rfl, [some (.d (encFs fs)), some (.ref h.length), some (.int f.1), some (.int f.2.1), some (.int f.2.2), some (.int f.2.1)], h ++ [.lst ((add1 (add1 U f.1) f.2.1).map W.int)], .inl (by
        simp [l0_unknowns_of, mkTup, allD, W.items, sizeMax, forL, l1_unknowns _ _ _ _ _ (show U.length < 16777216 by omega), l1_unknowns _ _ _ _ _ (show (add1 U f.1).length < 16777216 by omega)]), ?_⟩
      rw [List.foldl_append, hU]
      exact ⟨rfl, ⟨_, _, _, _, rfl⟩, by simp; omega⟩) (L := [some (.d (encFs fs)), some (.ref h.length), none, none, none, none]) (h := h ++ [.lst [.int 0]]) ⟨rfl, ⟨none, none, none, none, rfl⟩, by simp⟩
  simp [m_unknowns_of, fn, b_unknowns_of, List.replicate, sizeMax]
  simp only [e]
  simp [gc]
  rfl

/-! ### relaxed -/
/-- the sums and last facts that two dicts hold -/
abbrev St2 := List (Int × Int) × List (Int × Nat)
def relax1 (fs : List Fact) (s : St2 × Bool) (p : Nat) : St2 × Bool :=
  match fs[p]? with
  | none => s
  | some (i, j, c) => match dlook s.1.1 j with
    | none => s
    | some b => match dlook s.1.1 i with
      | none => ((dput s.1.1 i (b + c), dput s.1.2 i p), true)
      | some a => if b + c < a then ((dput s.1.1 i (b + c), dput s.1.2 i p), true) else s
def relaxTo (fs : List Fact) (s : St2) (n : Nat) : St2 × Bool := (List.range n).foldl (relax1 fs) (s, false)
def relax (fs : List Fact) (s : St2) : St2 × Bool := relaxTo fs s fs.length
theorem relaxTo_succ (fs : List Fact) (s : St2) (n : Nat) : relaxTo fs s (n + 1) = relax1 fs (relaxTo fs s n) n := by simp [relaxTo, List.range_succ]
abbrev KeyOk2 (V : List Int) (s : St2) : Prop := KeyOk V s.1 ∧ KeyOk V s.2
theorem relax1_step (fs : List Fact) (s : St2 × Bool) (p : Nat) : (dlook (relax1 fs s p).1.1, dlook (relax1 fs s p).1.2, (relax1 fs s p).2) = step fs (dlook s.1.1, dlook s.1.2, s.2) p := by
  unfold relax1 step
  cases hf : fs[p]? with
  | none => rfl
  | some f =>
    obtain ⟨i, j, c⟩ := f
    cases hj : dlook s.1.1 j with
    | none => simp [hj]
    | some b =>
      cases hi : dlook s.1.1 i with
      | none => simp [hj, hi, dlook_dput]
      | some a =>
        by_cases hlt : b + c < a
        · simp [hj, hi, hlt, dlook_dput]
        · simp [hj, hi, hlt]
theorem relax1_keys {fs : List Fact} {V : List Int} (hV : Names fs V) {s : St2 × Bool} (h : KeyOk2 V s.1) (p : Nat) : KeyOk2 V (relax1 fs s p).1 := by
  unfold relax1
  split
  · exact h
  · rename_i i j c hf
    have hi : i ∈ V := (hV _ (List.mem_of_getElem? hf)).1
    split
    · exact h
    · split
      · exact ⟨h.1.put hi, h.2.put hi⟩
      · split
        · exact ⟨h.1.put hi, h.2.put hi⟩
        · exact h
theorem relaxTo_step (fs : List Fact) (s : St2) : ∀ n, (dlook (relaxTo fs s n).1.1, dlook (relaxTo fs s n).1.2, (relaxTo fs s n).2) = passTo fs (dlook s.1) (dlook s.2) n
  | 0 => rfl
  | n + 1 => by rw [relaxTo_succ, relax1_step, passTo_succ, relaxTo_step fs s n]
theorem relaxTo_keys {fs : List Fact} {V : List Int} (hV : Names fs V) {s : St2} (h : KeyOk2 V s) : ∀ n, KeyOk2 V (relaxTo fs s n).1
  | 0 => h
  | n + 1 => by rw [relaxTo_succ]; exact relax1_keys hV (relaxTo_keys hV h n) n
theorem relax_pass (fs : List Fact) (s : St2) : dlook (relax fs s).1.1 = (pass fs (dlook s.1) (dlook s.2)).1 ∧ dlook (relax fs s).1.2 = (pass fs (dlook s.1) (dlook s.2)).2.1 ∧ (relax fs s).2 = (pass fs (dlook s.1) (dlook s.2)).2.2 := by
  have := relaxTo_step fs s fs.length
  exact ⟨congrArg (·.1) this, congrArg (·.2.1) this, congrArg (·.2.2) this⟩
/-- the heap with the two dicts -/
def two (h : Hh) (a b : Nat) (s : St2) : Hh := (h.set a (encM eI s.1)).set b (encM eN s.2)
section
variable {h : Hh} {a b : Nat} (la : a < h.length) (lb : b < h.length) (hab : a ≠ b) (s : St2)
include la lb hab
theorem two_a : (two h a b s)[a]? = some (encM eI s.1) := by
  unfold two; rw [List.getElem?_set_ne (Ne.symm hab), List.getElem?_set_self la]
theorem two_b : (two h a b s)[b]? = some (encM eN s.2) := by
  unfold two; rw [List.getElem?_set_self (by simpa using lb)]
theorem two_put (x : List (Int × Int)) (y : List (Int × Nat)) : ((two h a b s).set a (encM eI x)).set b (encM eN y) = two h a b (x, y) := by
  unfold two
  rw [List.set_comm _ _ (Ne.symm hab), List.set_set, List.set_set]
end
theorem two_id {h : Hh} {a b : Nat} {s : St2} (ha : h[a]? = some (encM eI s.1)) (hb : h[b]? = some (encM eN s.2)) : two h a b s = h := by
  have same : ∀ {l : Hh} {k : Nat} {o : O}, l[k]? = some o → l.set k o = l := fun {l k o} e => by
    refine List.ext_getElem? fun i => ?_
    rw [List.getElem?_set]
    split
    · rename_i e2; subst e2
      split
      · exact e.symm
      · rename_i hl; rw [List.getElem?_eq_none (by omega)] at e; cases e
    · rfl
  unfold two
  rw [same ha, same hb]
theorem l0_relaxed_ok {fs : List Fact} {h : Hh} {a b p : Nat} (la : a < h.length) (lb : b < h.length) (hab : a ≠ b) (hp : p < fs.length) (s : St2 × Bool) (x5 x6 x7 : Option W) (h1 : s.1.1.length < 16777216) (h2 : s.1.2.length < 16777216) :
    ∃ y5 y6 y7, l0_relaxed [some (.d (encFs fs)), some (.ref a), some (.ref b), some (.bool s.2), some (.int (p : Int)), x5, x6, x7] (two h a b s.1) =
      .nx [some (.d (encFs fs)), some (.ref a), some (.ref b), some (.bool (relax1 fs s p).2), some (.int (p : Int)), y5, y6, y7] (two h a b (relax1 fs s p).1) := by
  have hf : fs[p]? = some fs[p] := by simp [hp]
  generalize fs[p] = f at hf
  obtain ⟨i, j, c⟩ := f
  have hA := two_a la lb hab
  have hB := two_b la lb hab
  refine ⟨some (.int i), some (.int j), some (.int c), ?_⟩
  have sA : ∀ (q : List (Int × Int)), setIx (.ref b) (.d (.int i)) (eN p) ((two h a b s.1).set a (encM eI q)) = some (two h a b (q, dput s.1.2 i p)) := fun q => by
    have e : ((two h a b s.1).set a (encM eI q))[b]? = some (encM eN s.1.2) := by rw [List.getElem?_set_ne hab]; exact hB s.1
    rw [setIx_dk e h2, two_put la lb hab]
  simp [l0_relaxed, ix_Fs hf, setAll, opIn_dk (hA _), relax1, hf]
  cases hj : dlook s.1.1 j with
  | none => simp
  | some d =>
    simp [opIx_dk (hA _) hj]
    cases hi : dlook s.1.1 i with
    | none => simp [opIx_dk (hA _) hj, setIx_dk (e := eI) (hA _) h1, sA]
    | some a' =>
      simp [opIx_dk (hA _) hi]
      by_cases hlt : d + c < a'
      · simp [hlt, opIx_dk (hA _) hj, setIx_dk (e := eI) (hA _) h1, sA]
      · simp [hlt]
theorem relaxed_ok {fs : List Fact} {V : List Int} {s : St2} {h : Hh} {a b : Nat} (ha : h[a]? = some (encM eI s.1)) (hb : h[b]? = some (encM eN s.2)) (hab : a ≠ b)
    (hV : Names fs V) (hl : V.length < 16777216) (hn : fs.length < 4000000) (hs : KeyOk2 V s) :
    m_relaxed [.d (encFs fs), .ref a, .ref b] h = .ok (.bool (relax fs s).2) (two h a b (relax fs s).1) := by
  have la : a < h.length := (List.getElem?_eq_some_iff.mp ha).1
  have lb : b < h.length := (List.getElem?_eq_some_iff.mp hb).1
  obtain ⟨L2, h2, e, rfl, x4, x5, x6, x7, rfl⟩ := forL_num (ok := (Src.rg 0 fs.length).ok) (g := .nm 4) (body := l0_relaxed) (n := fs.length)
    (fun n L h' => h' = two h a b (relaxTo fs s n).1 ∧ ∃ x4 x5 x6 x7, L = [some (.d (encFs fs)), some (.ref a), some (.ref b), some (.bool (relaxTo fs s n).2), x4, x5, x6, x7]) (fun _ _ _ _ => trivial)
    (fun p L h' hp ⟨e1, x4, x5, x6, x7, e2⟩ => by
      subst e1 e2
      have k := relaxTo_keys hV hs p
      obtain ⟨y5, y6, y7, e⟩ := l0_relaxed_ok la lb hab hp (relaxTo fs s p) x5 x6 x7 (Nat.lt_of_le_of_lt k.1.len hl) (Nat.lt_of_le_of_lt k.2.len hl)
      exact ⟨_, rfl, _, _, .inl e, by rw [relaxTo_succ], _, _, _, _, by rw [relaxTo_succ]⟩)
    (L := [some (.d (encFs fs)), some (.ref a), some (.ref b), some (.bool false), none, none, none, none]) (h := h) ⟨(two_id ha hb).symm, none, none, none, none, rfl⟩
  simp [m_relaxed, fn, b_relaxed, List.replicate]
  rw [if_pos (by omega)]
  simp only [R.then_ok, items_rg, e]
  simp [gc_len, two]
  exact ⟨rfl, rfl⟩
end Sp
end

section
/-! SpF2: walked_round. -/
namespace Sp
open Mi Sem BF
open PySem (PyData Str)
def encR (row : List Nat) : PyData := .tuple (row.map fun (p : Nat) => .int (p : Int))
def wR (row : List Nat) : List W := row.map fun (p : Nat) => W.int (p : Int)
theorem wR_d (row : List Nat) : wR row = (row.map fun (p : Nat) => PyData.int (p : Int)).map W.d := by simp [wR]
theorem wR_snoc (row : List Nat) (p : Nat) : wR row ++ [W.int (p : Int)] = wR (row ++ [p]) := by simp [wR]
@[simp] theorem wR_len (row : List Nat) : (wR row).length = row.length := by simp [wR]
theorem wR_eq (row : List Nat) : wR row = (row.map fun (p : Nat) => (p : Int)).map W.int := by simp [wR]
theorem app_lst {ws : List W} {x : W} {a : Nat} {M : Hh} (h : M[a]? = some (.lst ws)) (hl : ws.length < 16777216) : mAppend [.ref a, x] M = some (.non, M.set a (.lst (ws ++ [x]))) := by
  simp [mAppend, h, hl]
theorem isLst_of {ws : List W} {a : Nat} {M : Hh} (h : M[a]? = some (.lst ws)) : isLst M (.ref a) = true := by simp [isLst, h]
theorem tuple_lst {xs : List PyData} {a : Nat} {M : Hh} (h : M[a]? = some (.lst (xs.map W.d))) : bTuple [.ref a] M = some (.d (.tuple xs), M) := by simp [bTuple, h]
theorem tuple_row {row : List Nat} {a : Nat} {M : Hh} (h : M[a]? = some (.lst (wR row))) : bTuple [.ref a] M = some (.d (encR row), M) := tuple_lst (by rw [h, wR_d])
theorem data_ints {xs : List Int} {a : Nat} {M : Hh} (h : M[a]? = some (.lst (xs.map W.int))) : dataW M dataDeep (.ref a) = some (.list (xs.map PyData.int)) := by
  show dataW M 5 (.ref a) = _
  unfold dataW
  rw [h]
  simp only [mapM_int, Option.map_some]
theorem eq_nil {xs : List Int} {a b : Nat} {M : Hh} (h : M[a]? = some (.lst (xs.map W.int))) (hb : M[b]? = some (.lst [])) : opEqB false (.ref a) (.ref b) M = some (.bool xs.isEmpty, M) := by
  have e1 := data_ints h
  have e2 := data_ints (xs := []) (by simpa using hb)
  simp only [opEqB, e1, e2]
  cases xs with
  | nil => simp [PyData.depth, PyData.depthAll, PyData.eqv, PyData.eqvAll]
  | cons x xs => simp [PyData.depth, PyData.depthAll, PyData.eqv, PyData.eqvAll]
theorem get2_0 {h : Hh} {x y : O} : (h ++ [x, y])[h.length]? = some x := by rw [app_get0]; rfl
theorem get2_1 {h : Hh} {x y : O} : (h ++ [x, y])[h.length + 1]? = some y := by rw [app_get]; rfl
theorem set2_1 {h : Hh} {x y z : O} : (h ++ [x, y]).set (h.length + 1) z = h ++ [x, z] := by rw [app_set]; rfl
theorem walked_round_ok {fs : List Fact} {U : List Int} {last : List (Int × Nat)} {h : Hh} {b : Nat} {x : Int} (hb : h[b]? = some (encM eN last)) (hU : Names fs U) (hl : U.length < 900000) (hx : x ∈ U)
    (hN : InvN fs (dlook last)) (hq : ∀ u p, dlook last u = some p → ∃ w c, fs[p]? = some (u, w, c)) (hr : ∀ v ps s, Back fs (dlook last) x v ps s → ps.length ≤ U.length → ∃ p, dlook last v = some p) :
    ∃ row : List Nat, m_walked_round [.d (encFs fs), .ref b, .d (.int x)] h = .ok (.d (encR row)) h ∧ row.length ≤ U.length ∧ ∃ u s, Walk fs u u row s ∧ row ≠ [] ∧ s < 0 := by
  have lb : b < h.length := (List.getElem?_eq_some_iff.mp hb).1
  have hB : ∀ l : Hh, (h ++ l)[b]? = some (encM eN last) := fun l => by rw [List.getElem?_append_left lb]; exact hb
  -- along the last facts until a name comes again
  obtain ⟨L1, h1, e1, met, u, ps, s, rfl, rfl, k1, nd1, hin, hle⟩ := whileL_nat (t := tVal (eOp2 opNotIn (eVar 4) (eVar 3))) (body := l0_walked_round)
    (fun m L h' => ∃ met u ps s, L = [some (.d (encFs fs)), some (.ref b), some (.int x), some (.ref h.length), some (.int u), none, none] ∧ h' = h ++ [.lst (met.map W.int)] ∧ BackN fs (dlook last) x u ps met s ∧ met.Nodup ∧ m + met.length = U.length + 1)
    (fun L h' => ∃ met u ps s, L = [some (.d (encFs fs)), some (.ref b), some (.int x), some (.ref h.length), some (.int u), none, none] ∧ h' = h ++ [.lst (met.map W.int)] ∧ BackN fs (dlook last) x u ps met s ∧ met.Nodup ∧ u ∈ met ∧ met.length ≤ U.length)
    (fun m L h' ⟨met, u, ps, s, e1, e2, k, nd, hm⟩ => by
      subst e1 e2
      have hg : (h ++ [O.lst (met.map W.int)])[h.length]? = some (.lst (met.map W.int)) := by simp
      have ml : met.length ≤ U.length := nodup_le nd (k.walkN.mem hU)
      by_cases hin : u ∈ met
      · exact .inl ⟨h ++ [.lst (met.map W.int)], by simp [opIn_ints hg, hin], met, u, ps, s, rfl, rfl, k, nd, hin, ml⟩
      · right
        have uU : u ∈ U := walkN_end hU k.walkN hx
        obtain ⟨p, hp⟩ := hr u ps s k.back (by rw [← k.walkN.len]; exact ml)
        obtain ⟨w, c, hf⟩ := hq u p hp
        have nd2 : (met ++ [u]).Nodup := by
          rw [List.nodup_append]
          exact ⟨nd, by simp, fun a ha b hb => by simp at hb; subst hb; exact fun e => hin (e ▸ ha)⟩
        have ml2 : (met ++ [u]).length ≤ U.length := nodup_le nd2 (fun y hy => by
          rcases List.mem_append.mp hy with hy | hy
          · exact k.walkN.mem hU y hy
          · simp at hy; rw [hy]; exact uU)
        refine ⟨h ++ [.lst (met.map W.int)], [some (.d (encFs fs)), some (.ref b), some (.int x), some (.ref h.length), some (.int w), none, none], h ++ [.lst ((met ++ [u]).map W.int)], by simp [opIn_ints hg, hin], .inl ?_, m - 1, ?_, met ++ [u], w, ps ++ [p], s + c, rfl, rfl, k.snoc hp hf, nd2, ?_⟩
        · have := app_int hg (x := u) (show met.length < 16777216 by omega)
          simp [l0_walked_round, isLst_of hg, this, opIx_dk (hB _) hp, ix_Fs hf]
        · simp at ml2; omega
        · simp at ml2 ⊢; omega) 1000000 (U.length + 1) (L := [some (.d (encFs fs)), some (.ref b), some (.int x), some (.ref h.length), some (.int x), none, none]) (h := h ++ [.lst []])
      ⟨[], x, [], 0, rfl, rfl, .nil x, List.nodup_nil, by simp⟩ (by omega)
  obtain ⟨ma, mb, rfl⟩ := List.append_of_mem hin
  obtain ⟨ps1, s1, ps2, s2, -, k2, rfl, rfl⟩ := BackN.split k1
  have l2 : ps2.length ≤ U.length := by
    have := k2.walkN.len
    simp at this hle
    omega
  have n2 : ps2 ≠ [] := fun e => by
    subst e
    have := k2.walkN.len
    simp at this
  -- once around
  obtain ⟨L2, h2, e2, row, t, rfl, rfl, k3, n3, n4⟩ := whileL_nat (t := tOr (tGc (tVal (eOp2 opEq (eVar 6) (eLst aNil)))) (tVal (eOp2 opNe (eVar 4) (eVar 5)))) (body := l1_walked_round)
    (fun m L h' => ∃ row w s1 rest s2, L = [some (.d (encFs fs)), some (.ref b), some (.int x), some (.ref h.length), some (.int w), some (.int u), some (.ref (h.length + 1))] ∧ h' = h ++ [.lst ((ma ++ u :: mb).map W.int), .lst (wR row)] ∧
      Back fs (dlook last) u w row s1 ∧ Back fs (dlook last) w u rest s2 ∧ (row = [] → rest ≠ []) ∧ row.length + rest.length ≤ U.length ∧ m = rest.length)
    (fun L h' => ∃ row s1, L = [some (.d (encFs fs)), some (.ref b), some (.int x), some (.ref h.length), some (.int u), some (.int u), some (.ref (h.length + 1))] ∧ h' = h ++ [.lst ((ma ++ u :: mb).map W.int), .lst (wR row)] ∧
      Back fs (dlook last) u u row s1 ∧ row ≠ [] ∧ row.length ≤ U.length)
    (fun m L h' ⟨row, w, s1, rest, s2, e1, e2, q1, q2, q3, q4, q5⟩ => by
      subst e1 e2 q5
      have hg : (h ++ [O.lst ((ma ++ u :: mb).map W.int), .lst (wR row)])[h.length + 1]? = some (.lst (wR row)) := get2_1
      have ht : tGc (tVal (eOp2 opEq (eVar 6) (eLst aNil))) [some (.d (encFs fs)), some (.ref b), some (.int x), some (.ref h.length), some (.int w), some (.int u), some (.ref (h.length + 1))] (h ++ [.lst ((ma ++ u :: mb).map W.int), .lst (wR row)]) = .ok row.isEmpty (h ++ [.lst ((ma ++ u :: mb).map W.int), .lst (wR row)]) := by
        refine tGc_ok (h' := (h ++ [.lst ((ma ++ u :: mb).map W.int), .lst (wR row)]) ++ [.lst []]) ?_ List.take_left
        have a1 : ((h ++ [O.lst ((ma ++ u :: mb).map W.int), .lst (wR row)]) ++ [.lst []])[h.length + 1]? = some (.lst ((row.map fun (p : Nat) => (p : Int)).map W.int)) := by
          rw [List.getElem?_append_left (by simp), hg, wR_eq]
        have a2 : ((h ++ [O.lst ((ma ++ u :: mb).map W.int), .lst (wR row)]) ++ [.lst []])[(h ++ [O.lst ((ma ++ u :: mb).map W.int), .lst (wR row)]).length]? = some (.lst []) := by rw [app_get0]; rfl
        have := eq_nil a1 a2
        simp only [tVal_eq, eOp2_eq, eVar_eq, eLst_eq, aNil_eq, R.bind_ok, List.getElem?_cons_succ, List.getElem?_cons_zero, List.length_nil, Nat.zero_le, if_true]
        rw [show opEq = opEqB false from rfl, this]
        simp
      by_cases hd : row = [] ∨ w ≠ u
      · right
        obtain ⟨p, rest', rfl⟩ : ∃ p rest', rest = p :: rest' := by
          cases rest with
          | cons p r => exact ⟨p, r, rfl⟩
          | nil =>
            exfalso
            rcases hd with hd | hd
            · exact q3 hd rfl
            · cases q2; exact hd rfl
        obtain ⟨w', c, t, z1, z2, z3, z4⟩ := q2.front
        refine ⟨h ++ [.lst ((ma ++ u :: mb).map W.int), .lst (wR row)], [some (.d (encFs fs)), some (.ref b), some (.int x), some (.ref h.length), some (.int w'), some (.int u), some (.ref (h.length + 1))], h ++ [.lst ((ma ++ u :: mb).map W.int), .lst (wR (row ++ [p]))], ?_, .inl ?_, rest'.length, by simp, row ++ [p], w', s1 + c, rest', t, rfl, rfl, q1.snoc z1 z2, z3, by simp, by simp at q4 ⊢; omega, rfl⟩
        · rw [tOr_eq, ht, R.bind_ok]
          rcases hd with rfl | hd
          · rfl
          · cases row with
            | nil => rfl
            | cons _ _ => simp [hd]
        · have e9 := app_lst hg (x := W.int (p : Int)) (show (wR row).length < 16777216 by simp at q4 ⊢; omega)
          rw [set2_1, wR_snoc] at e9
          simp only [l1_walked_round, sCons_eq, sExpr_eq, eMetL_eq, eVar_eq, List.getElem?_cons_succ, List.getElem?_cons_zero, R.bind_ok, isLst_of hg, if_true, aCons_eq, aNil_eq, eOp2_eq, opIx_dk (hB _) z1, R.of_some, e9, R.then_ok, Out.seq_nx, sAsg_eq, ix_Fs z2, ix_F1, eCon_eq, put_nm, sNil_eq, List.set_cons_succ, List.set_cons_zero]
      · left
        have h1 : row ≠ [] := fun e => hd (.inl e)
        have h2 : w = u := Decidable.byContradiction fun e => hd (.inr e)
        subst h2
        refine ⟨h ++ [.lst ((ma ++ w :: mb).map W.int), .lst (wR row)], ?_, row, s1, rfl, rfl, q1, h1, by omega⟩
        rw [tOr_eq, ht, R.bind_ok]
        cases row with
        | nil => exact (h1 rfl).elim
        | cons _ _ => simp) 1000000 ps2.length
      (L := [some (.d (encFs fs)), some (.ref b), some (.int x), some (.ref h.length), some (.int u), some (.int u), some (.ref (h.length + 1))]) (h := h ++ [.lst ((ma ++ u :: mb).map W.int), .lst (wR [])])
      ⟨[], u, 0, ps2, s2, rfl, rfl, .nil u, k2.back, fun _ => n2, by simpa using l2, rfl⟩ (by omega)
  refine ⟨row, ?_, n4, u, t, k3.walk, n3, hN u row t k3 n3⟩
  have eT := tuple_row (row := row) (a := h.length + 1) (M := h ++ [.lst ((ma ++ u :: mb).map W.int), .lst (wR row)]) get2_1
  simp only [m_walked_round, fn, b_walked_round, List.length_cons, List.length_nil, if_true, List.map_cons, List.map_nil, List.replicate, List.cons_append, List.nil_append, sCons_eq, sAsg_eq, eLst_eq, aNil_eq, R.bind_ok, R.then_ok, put_nm, List.set_cons_succ, List.set_cons_zero, Out.seq_nx, Nat.zero_le, eVar_eq, List.getElem?_cons_succ, List.getElem?_cons_zero, sWhile_eq, Nat.reduceAdd, Nat.reduceSub, e1]
  have hh : (h ++ [O.lst ((ma ++ u :: mb).map W.int)]).length = h.length + 1 := by simp
  have hh2 : (h ++ [O.lst ((ma ++ u :: mb).map W.int)]) ++ [.lst []] = h ++ [.lst ((ma ++ u :: mb).map W.int), .lst (wR [])] := by simp [wR]
  rw [hh, hh2, e2]
  simp only [sCons_eq, sNil_eq, Out.seq_nx, sRet_eq, eOpN_eq, aCons_eq, aNil_eq, eVar_eq, List.getElem?_cons_succ, List.getElem?_cons_zero, R.bind_ok, eT, R.of_some, R.then_ok, Out.seq_rt, outR_rt, tidy_ok, gc_d_app]
end Sp
end

section
/-! SpF3: clash. -/
namespace Sp
open Mi Sem BF
open PySem (PyData Str)
def relaxN (fs : List Fact) : Nat → St2 → St2
  | 0, s => s
  | n + 1, s => (relax fs (relaxN fs n s)).1
theorem relaxN_rounds (fs : List Fact) (s : St2) : ∀ n, (dlook (relaxN fs n s).1, dlook (relaxN fs n s).2) = rounds fs n (dlook s.1, dlook s.2)
  | 0 => rfl
  | n + 1 => by
    obtain ⟨a, b, _⟩ := relax_pass fs (relaxN fs n s)
    show (dlook (relax fs (relaxN fs n s)).1.1, dlook (relax fs (relaxN fs n s)).1.2) = _
    rw [a, b]
    have ih := relaxN_rounds fs s n
    show _ = ((pass fs (rounds fs n (dlook s.1, dlook s.2)).1 (rounds fs n (dlook s.1, dlook s.2)).2).1, (pass fs (rounds fs n (dlook s.1, dlook s.2)).1 (rounds fs n (dlook s.1, dlook s.2)).2).2.1)
    rw [← ih]
theorem relaxN_fst (fs : List Fact) (s : St2) (n : Nat) : dlook (relaxN fs n s).1 = (rounds fs n (dlook s.1, dlook s.2)).1 := congrArg (·.1) (relaxN_rounds fs s n)
theorem relaxN_snd (fs : List Fact) (s : St2) (n : Nat) : dlook (relaxN fs n s).2 = (rounds fs n (dlook s.1, dlook s.2)).2 := congrArg (·.2) (relaxN_rounds fs s n)
theorem relaxN_keys {fs : List Fact} {V : List Int} (hV : Names fs V) {s : St2} (h : KeyOk2 V s) : ∀ n, KeyOk2 V (relaxN fs n s)
  | 0 => h
  | n + 1 => relaxTo_keys hV (relaxN_keys hV h n) fs.length
/-! ### dicts with 0 for all -/
def zer (U : List Int) : List (Int × Int) := U.map fun u => (u, 0)
theorem zer_keys (U : List Int) : (zer U).map (·.1) = U := by simp [zer, Function.comp_def]
theorem zer_ok {U V : List Int} (h : U.Nodup) (hs : ∀ x ∈ U, x ∈ V) : KeyOk V (zer U) := ⟨by rw [zer_keys]; exact h, by rw [zer_keys]; exact hs⟩
theorem zer_val {U : List Int} {u a : Int} (h : dlook (zer U) u = some a) : a = 0 := by
  induction U with
  | nil => cases h
  | cons x U ih =>
    rw [zer, List.map_cons, dlook_cons] at h
    split at h
    · cases h; rfl
    · exact ih h
theorem dlook_mem {α : Type} {m : List (Int × α)} {u : Int} (h : u ∈ m.map (·.1)) : ∃ a, dlook m u = some a := by
  cases e : dlook m u with
  | some a => exact ⟨a, rfl⟩
  | none => exact (dlook_none.mp e h).elim
theorem merge_nodup {kvs : List (Key × W)} (h : (kvs.map (·.1)).Nodup) : merge [] kvs = kvs := by
  have go : ∀ (kvs acc : List (Key × W)), ((acc ++ kvs).map (·.1)).Nodup → merge acc kvs = acc ++ kvs := by
    intro kvs
    induction kvs with
    | nil => intro acc _; simp [merge]
    | cons p kvs ih =>
      intro acc hn
      have hp : put acc p.1 p.2 = acc ++ [p] := by
        unfold put
        rw [if_neg]
        intro hc
        rw [List.any_eq_true] at hc
        obtain ⟨q, hq, e⟩ := hc
        rw [List.map_append, List.nodup_append] at hn
        exact hn.2.2 q.1 (List.mem_map.mpr ⟨q, hq, rfl⟩) p.1 (by simp) (by simpa using e)
      show merge (put acc p.1 p.2) kvs = _
      rw [hp, ih _ (by simpa using hn)]
      simp
  have := go kvs [] (by simpa using h)
  simpa using this
theorem inl_nodup {U : List Int} (h : U.Nodup) : (U.map fun u => (Sum.inl u : Key)).Nodup := by
  rw [List.Nodup, List.pairwise_map]
  exact List.Pairwise.imp (fun {a b} hab e => hab (by cases e; rfl)) h
/-- dict(..) of a list of pairs -/
theorem dict_zer {U : List Int} {a : Nat} {M : Hh} (hU : U.Nodup) (h : M[a]? = some (.lst (U.map fun u => W.d (.tuple [.int u, .int 0])))) : bDict [.ref a] M = some (.ref M.length, M ++ [encM eI (zer U)]) := by
  have e1 : (U.map fun u => W.d (.tuple [.int u, .int 0])).mapM pairW = some (U.map fun u => ((.inl u : Key), W.int 0)) := by
    clear h hU
    induction U with
    | nil => rfl
    | cons u U ih =>
      rw [List.map_cons, List.mapM_cons, ih]
      rfl
  have e2 : merge [] (U.map fun u => ((.inl u : Key), W.int 0)) = U.map fun u => ((.inl u : Key), W.int 0) := merge_nodup (by simpa [Function.comp_def] using inl_nodup hU)
  simp only [bDict, h, e1, Option.map_some, e2]
  simp [encM, zer, Function.comp_def]
theorem dict_copy {α : Type} {e : α → W} {m : List (Int × α)} {a : Nat} {M : Hh} (h : M[a]? = some (encM e m)) : bDict [.ref a] M = some (.ref M.length, M ++ [encM e m]) := by
  simp [bDict, h, encM]
theorem sorted_dk {α : Type} {e : α → W} {m : List (Int × α)} {a : Nat} {M : Hh} (h : M[a]? = some (encM e m)) (hl : m.length < 64) : bSorted [.ref a] M = some (.ref M.length, M ++ [.lst ((sortI (m.map (·.1))).map W.int)]) := by
  have e1 : ((m.map fun p => ((.inl p.1 : Key), e p.2)).map (·.1)).mapM intK = some (m.map (·.1)) := by
    clear h hl
    induction m with
    | nil => rfl
    | cons p m ih => 
      rw [List.map_cons, List.map_cons, List.mapM_cons, ih]; rfl
  simp only [bSorted, h, encM, e1, Option.map_some]
  simp [hl]
theorem mem_sortI {ns : List Int} {x : Int} : x ∈ sortI ns ↔ x ∈ ns := by simp [sortI]
theorem len_sortI {ns : List Int} : (sortI ns).length = ns.length := by simp [sortI]
theorem len_dk {α : Type} {e : α → W} {m : List (Int × α)} {a : Nat} {M : Hh} (h : M[a]? = some (encM e m)) : bLen [.ref a] M = some (.int m.length, M) := by
  simp [bLen, h, encM]
/-! ### heaps with two dicts behind -/
theorem two_23 {h : Hh} {x y p q : O} (s : St2) : two (h ++ [x, y, p, q]) (h.length + 2) (h.length + 3) s = h ++ [x, y, encM eI s.1, encM eN s.2] := by
  unfold two; rw [app_set, app_set]; rfl
theorem two_45 {h : Hh} {x y z t p q : O} (s : St2) : two (h ++ [x, y, z, t, p, q]) (h.length + 4) (h.length + 5) s = h ++ [x, y, z, t, encM eI s.1, encM eN s.2] := by
  unfold two; rw [app_set, app_set]; rfl
section
variable (fs : List Fact) (h : Hh)
/-- the heap of clash: the names, the pairs, the sums, the last facts -/
def hC (s : St2) : Hh := h ++ [.lst ((unk fs).map W.int), .lst ((unk fs).map fun u => W.d (.tuple [.int u, .int 0])), encM eI s.1, encM eN s.2]
theorem hC_2 (s : St2) : (hC fs h s)[h.length + 2]? = some (encM eI s.1) := by unfold hC; rw [app_get]; rfl
theorem hC_3 (s : St2) : (hC fs h s)[h.length + 3]? = some (encM eN s.2) := by unfold hC; rw [app_get]; rfl
theorem hC_len (s : St2) : (hC fs h s).length = h.length + 4 := by simp [hC]
end
theorem relaxed_hC {fs : List Fact} {h : Hh} (s : St2) (hn : fs.length < 4000000) (hU : (unk fs).length < 64) (hk : KeyOk2 (unk fs) s) :
    m_relaxed [.d (encFs fs), .ref (h.length + 2), .ref (h.length + 3)] (hC fs h s) = .ok (.bool (relax fs s).2) (hC fs h (relax fs s).1) := by
  rw [relaxed_ok (s := s) (hC_2 fs h s) (hC_3 fs h s) (by omega) (unk_ok fs).2.1 (by omega) hn hk]
  unfold hC; rw [two_23]
theorem infeas_of {fs : List Fact} {U : List Int} (hU : Names fs U) {l : Mp} {q : Pi} {n : Nat} (hn : U.length ≤ n + 1) (h : (pass fs (rounds fs n (l, q)).1 (rounds fs n (l, q)).2).2.2 = true) : ¬ Feas fs := fun hF => by
  rw [rounds_stop hU hF hn] at h; cases h
def s0 (fs : List Fact) : St2 := (zer (unk fs), [])
theorem s0_keys (fs : List Fact) : KeyOk2 (unk fs) (s0 fs) := ⟨zer_ok (unk_ok fs).1 (fun _ h => h), KeyOk.nil⟩
/-- where facts have no numbers, each round from 0 makes a sum smaller -/
theorem always {fs : List Fact} (hF : ¬ Feas fs) (n : Nat) : (relax fs (relaxN fs n (s0 fs))).2 = true := by
  cases e : (relax fs (relaxN fs n (s0 fs))).2 with
  | true => rfl
  | false =>
    exfalso
    apply hF
    rw [(relax_pass fs _).2.2] at e
    refine ⟨_, feas_of (unk_ok fs).2.1 (fun u hu => ?_) e⟩
    obtain ⟨a, ha⟩ := dlook_mem (m := zer (unk fs)) (u := u) (by rw [zer_keys]; exact hu)
    obtain ⟨a', ha', _⟩ := rounds_le fs (dlook (s0 fs).1, dlook (s0 fs).2) n u a ha
    exact ⟨a', by rw [relaxN_fst]; exact ha'⟩
/-- the turns of clash -/
theorem clash_loop {fs : List Fact} {h : Hh} (hn : fs.length < 4000000) (hU : (unk fs).length < 64) :
    (∃ x4, forL (Src.rg 0 (unk fs).length).ok (.nm 4) l0_clash (rgItems 0 (unk fs).length) [some (.d (encFs fs)), some (.ref (h.length + 2)), none, some (.ref (h.length + 3)), none, none, none, none] (hC fs h (s0 fs)) =
      .nx [some (.d (encFs fs)), some (.ref (h.length + 2)), none, some (.ref (h.length + 3)), x4, none, none, none] (hC fs h (relaxN fs (unk fs).length (s0 fs))) ∧ ¬ Feas fs) ∨
    ∃ s, forL (Src.rg 0 (unk fs).length).ok (.nm 4) l0_clash (rgItems 0 (unk fs).length) [some (.d (encFs fs)), some (.ref (h.length + 2)), none, some (.ref (h.length + 3)), none, none, none, none] (hC fs h (s0 fs)) = .rt .non (hC fs h s) ∧ Feas fs := by
  by_cases hF : Feas fs
  · right
    rcases forL_numR (ok := (Src.rg 0 (unk fs).length).ok) (g := .nm 4) (body := l0_clash) (n := (unk fs).length)
      (fun n L h' => h' = hC fs h (relaxN fs n (s0 fs)) ∧ (∃ x4, L = [some (.d (encFs fs)), some (.ref (h.length + 2)), none, some (.ref (h.length + 3)), x4, none, none, none]) ∧ ∀ m, m < n → (relax fs (relaxN fs m (s0 fs))).2 = true)
      (fun w h2 => w = .non ∧ ∃ s, h2 = hC fs h s) (fun _ _ _ _ => trivial)
      (fun n L h' hlt ⟨e1, ⟨x4, e2⟩, hall⟩ => by
        subst e1 e2
        refine ⟨[some (.d (encFs fs)), some (.ref (h.length + 2)), none, some (.ref (h.length + 3)), some (.int (n : Int)), none, none, none], rfl, ?_⟩
        have hr := relaxed_hC (h := h) (relaxN fs n (s0 fs)) hn hU (relaxN_keys (unk_ok fs).2.1 (s0_keys fs) n)
        cases hc : (relax fs (relaxN fs n (s0 fs))).2 with
        | true =>
          rw [hc] at hr
          exact .inl ⟨_, _, .inl (by simp [l0_clash, hr]; exact ⟨rfl, rfl⟩), rfl, ⟨_, rfl⟩, fun m hm => by
            by_cases e : m = n
            · subst e; exact hc
            · exact hall m (by omega)⟩
        | false =>
          rw [hc] at hr
          exact .inr ⟨.non, hC fs h (relax fs (relaxN fs n (s0 fs))).1, by simp [l0_clash, hr], rfl, _, rfl⟩)
      (L := [some (.d (encFs fs)), some (.ref (h.length + 2)), none, some (.ref (h.length + 3)), none, none, none, none]) (h := hC fs h (s0 fs)) ⟨rfl, ⟨none, rfl⟩, fun m hm => absurd hm (Nat.not_lt_zero _)⟩ with ⟨L2, h2, e, e1, ⟨x4, e2⟩, hall⟩ | ⟨w, h2, e, rfl, s, rfl⟩
    · exfalso
      have hpos : 0 < (unk fs).length := List.length_pos_of_mem (unk_ok fs).2.2.1
      have h9 := hall ((unk fs).length - 1) (by omega)
      rw [(relax_pass fs _).2.2, relaxN_fst, relaxN_snd] at h9
      exact infeas_of (unk_ok fs).2.1 (show (unk fs).length ≤ (unk fs).length - 1 + 1 by omega) h9 hF
    · exact ⟨s, e, hF⟩
  · left
    obtain ⟨L2, h2, e, rfl, x4, rfl⟩ := forL_num (ok := (Src.rg 0 (unk fs).length).ok) (g := .nm 4) (body := l0_clash) (n := (unk fs).length)
      (fun n L h' => h' = hC fs h (relaxN fs n (s0 fs)) ∧ ∃ x4, L = [some (.d (encFs fs)), some (.ref (h.length + 2)), none, some (.ref (h.length + 3)), x4, none, none, none]) (fun _ _ _ _ => trivial)
      (fun n L h' hlt ⟨e1, x4, e2⟩ => by
        subst e1 e2
        have hr := relaxed_hC (h := h) (relaxN fs n (s0 fs)) hn hU (relaxN_keys (unk_ok fs).2.1 (s0_keys fs) n)
        rw [always hF n] at hr
        exact ⟨_, rfl, [some (.d (encFs fs)), some (.ref (h.length + 2)), none, some (.ref (h.length + 3)), some (.int (n : Int)), none, none, none], hC fs h (relaxN fs (n + 1) (s0 fs)), .inl (by simp [l0_clash, hr]; rfl), rfl, _, rfl⟩)
      (L := [some (.d (encFs fs)), some (.ref (h.length + 2)), none, some (.ref (h.length + 3)), none, none, none, none]) (h := hC fs h (s0 fs)) ⟨rfl, none, rfl⟩
    exact ⟨x4, e, hF⟩
theorem filter_true {α : Type} (xs : List α) : xs.filter (fun _ => true) = xs := List.filter_eq_self.mpr fun _ _ => rfl
theorem zer_comp {fs : List Fact} {h : Hh} (hn : fs.length < 4000000) (hU : (unk fs).length < 64) :
    eComp (iSeq (eCall m_unknowns_of (aCons (eVar 0) aNil))) [2] (.nm 2) tYes (eTup (aCons (eVar 2) (aCons (eCon (.int 0)) aNil))) [some (.d (encFs fs)), none, none, none, none, none, none, none] h =
      .ok (.ref (h.length + 1)) (h ++ [.lst ((unk fs).map W.int), .lst ((unk fs).map fun u => W.d (.tuple [.int u, .int 0]))]) := by
  have e := eComp_pure (i := iSeq (eCall m_unknowns_of (aCons (eVar 0) aNil))) (vs := [2]) (g := .nm 2) (t := tYes) (e := eTup (aCons (eVar 2) (aCons (eCon (.int 0)) aNil))) (L := [some (.d (encFs fs)), none, none, none, none, none, none, none]) (h0 := h) (h := h ++ [.lst ((unk fs).map W.int)])
    (enc := W.int) (s := .ls h.length ((unk fs).map W.int)) (fun _ => true) (fun u => W.d (.tuple [.int u, .int 0])) (unk fs)
    (by simp [unknowns_ok hn]) rfl (fun acc => by simp) (by simp [sizeMax]; omega)
    (fun u hu => ⟨[some (.d (encFs fs)), none, some (.int u), none, none, none, none, none], rfl, fun acc => ⟨rfl, fun _ => by simp [mkTup, allD, sizeMax]⟩⟩)
  rw [e, filter_true]
  simp
theorem clash_tail {fs : List Fact} {h : Hh} {x4 : Option W} (hn : fs.length < 4000000) (hU : (unk fs).length < 64) (hF : ¬ Feas fs) : ∃ row,
    (∃ G, sCons (sAsg (.nm 5) (eOpN bDict (aCons (eVar 1) aNil)))
      (sCons (sAsg (.nm 6) (eOpN bDict (aCons (eVar 3) aNil)))
      (sCons (sExpr (eCall m_relaxed (aCons (eVar 0) (aCons (eVar 5) (aCons (eVar 6) aNil)))))
      (sCons (sAsg (.nm 7) (eComp (iSeq (eOpN bSorted (aCons (eVar 5) aNil))) [2] (.nm 2) (tVal (eOp2 opLt (eOp2 opIx (eVar 5) (eVar 2)) (eOp2 opIx (eVar 1) (eVar 2)))) (eVar 2)))
      (sCons (sRet (eCall m_walked_round (aCons (eVar 0) (aCons (eVar 6) (aCons (eOp2 opIx (eVar 7) (eCon (.int 0))) aNil)))))
      sNil)))) [some (.d (encFs fs)), some (.ref (h.length + 2)), none, some (.ref (h.length + 3)), x4, none, none, none] (hC fs h (relaxN fs (unk fs).length (s0 fs))) = .rt (.d (encR row)) (h ++ G)) ∧
    row.length ≤ (unk fs).length ∧ ∃ u s, Walk fs u u row s ∧ row ≠ [] ∧ s < 0 := by
  have hz := unk_ok fs
  generalize hs : relaxN fs (unk fs).length (s0 fs) = σ
  generalize hs' : relaxN fs ((unk fs).length + 1) (s0 fs) = σ'
  have kσ : KeyOk2 (unk fs) σ := hs ▸ relaxN_keys hz.2.1 (s0_keys fs) _
  have kσ' : KeyOk2 (unk fs) σ' := hs' ▸ relaxN_keys hz.2.1 (s0_keys fs) _
  have st : (relax fs σ).1 = σ' := by rw [← hs, ← hs']; rfl
  have f1 := relaxN_fst fs (s0 fs) (unk fs).length
  have f1' := relaxN_fst fs (s0 fs) ((unk fs).length + 1)
  have f2' := relaxN_snd fs (s0 fs) ((unk fs).length + 1)
  rw [hs] at f1
  rw [hs'] at f1' f2'
  have d0 : dlook (s0 fs).2 = fun _ => none := rfl
  rw [d0] at f1 f1' f2'
  have all : ∀ u ∈ unk fs, ∃ a, dlook σ.1 u = some a := fun u hu => by
    obtain ⟨a, ha⟩ := dlook_mem (m := zer (unk fs)) (u := u) (by rw [zer_keys]; exact hu)
    obtain ⟨a', ha', _⟩ := rounds_le fs (dlook (s0 fs).1, fun _ => none) (unk fs).length u a ha
    exact ⟨a', by rw [f1]; exact ha'⟩
  -- heaps
  obtain ⟨x, y, hxy⟩ : ∃ x y, ∀ s, hC fs h s = h ++ [x, y, encM eI s.1, encM eN s.2] := ⟨_, _, fun s => rfl⟩
  rw [hxy]
  have e5 : bDict [.ref (h.length + 2)] (h ++ [x, y, encM eI σ.1, encM eN σ.2]) = some (.ref (h.length + 4), h ++ [x, y, encM eI σ.1, encM eN σ.2, encM eI σ.1]) := by
    rw [dict_copy (e := eI) (m := σ.1) (by rw [app_get]; rfl)]; simp
  have e6 : bDict [.ref (h.length + 3)] (h ++ [x, y, encM eI σ.1, encM eN σ.2, encM eI σ.1]) = some (.ref (h.length + 5), h ++ [x, y, encM eI σ.1, encM eN σ.2, encM eI σ.1, encM eN σ.2]) := by
    rw [dict_copy (e := eN) (m := σ.2) (by rw [app_get]; rfl)]; simp
  have e7 : m_relaxed [.d (encFs fs), .ref (h.length + 4), .ref (h.length + 5)] (h ++ [x, y, encM eI σ.1, encM eN σ.2, encM eI σ.1, encM eN σ.2]) = .ok (.bool true) (h ++ [x, y, encM eI σ.1, encM eN σ.2, encM eI σ'.1, encM eN σ'.2]) := by
    have hc : (relax fs σ).2 = true := by rw [← hs]; exact always hF _
    rw [relaxed_ok (s := σ) (by rw [app_get]; rfl) (by rw [app_get]; rfl) (by omega) hz.2.1 (by omega) hn kσ, two_45, hc, st]
  have g4 : ∀ G : Hh, (h ++ x :: y :: encM eI σ.1 :: encM eN σ.2 :: encM eI σ'.1 :: encM eN σ'.2 :: G)[h.length + 4]? = some (encM eI σ'.1) := fun G => by rw [app_get]; rfl
  have g2 : ∀ G : Hh, (h ++ x :: y :: encM eI σ.1 :: encM eN σ.2 :: encM eI σ'.1 :: encM eN σ'.2 :: G)[h.length + 2]? = some (encM eI σ.1) := fun G => by rw [app_get]; rfl
  have g5 : ∀ G : Hh, (h ++ x :: y :: encM eI σ.1 :: encM eN σ.2 :: encM eI σ'.1 :: encM eN σ'.2 :: G)[h.length + 5]? = some (encM eN σ'.2) := fun G => by rw [app_get]; rfl
  have l6 : (h ++ [x, y, encM eI σ.1, encM eN σ.2, encM eI σ'.1, encM eN σ'.2]).length = h.length + 6 := by simp
  have e8 := sorted_dk (g4 []) (Nat.lt_of_le_of_lt kσ'.1.len hU)
  rw [l6] at e8
  generalize hso : sortI (σ'.1.map (·.1)) = so at e8
  have so_mem : ∀ u ∈ so, u ∈ σ'.1.map (·.1) := fun u hu => mem_sortI.mp (hso ▸ hu)
  have so_len : so.length < 64 := by
    rw [← hso, len_sortI, List.length_map]; exact Nat.lt_of_le_of_lt kσ'.1.len hU
  let sm : Int → Bool := fun u => decide ((dlook σ'.1 u).getD 0 < (dlook σ.1 u).getD 0)
  have e9 : eComp (iSeq (eOpN bSorted (aCons (eVar 5) aNil))) [2] (.nm 2) (tVal (eOp2 opLt (eOp2 opIx (eVar 5) (eVar 2)) (eOp2 opIx (eVar 1) (eVar 2)))) (eVar 2)
      [some (.d (encFs fs)), some (.ref (h.length + 2)), none, some (.ref (h.length + 3)), x4, some (.ref (h.length + 4)), some (.ref (h.length + 5)), none] (h ++ [x, y, encM eI σ.1, encM eN σ.2, encM eI σ'.1, encM eN σ'.2]) =
      .ok (.ref (h.length + 7)) (h ++ [x, y, encM eI σ.1, encM eN σ.2, encM eI σ'.1, encM eN σ'.2, .lst (so.map W.int), .lst ((so.filter sm).map W.int)]) := by
    rw [eComp_pure (h := h ++ [x, y, encM eI σ.1, encM eN σ.2, encM eI σ'.1, encM eN σ'.2, .lst (so.map W.int)]) (enc := W.int) (s := .ls (h.length + 6) (so.map W.int)) sm W.int so (by
        have q : (h ++ [x, y, encM eI σ.1, encM eN σ.2, encM eI σ'.1, encM eN σ'.2] ++ [.lst (so.map W.int)])[h.length + 6]? = some (O.lst (so.map W.int)) := by rw [← l6, app_get0]; rfl
        simp only [iSeq_eq, eOpN_eq, aCons_eq, eVar_eq, List.getElem?_cons_succ, List.getElem?_cons_zero, R.bind_ok, aNil_eq, e8, R.of_some, q]
        simp) rfl (fun acc => by
        show (h ++ _ ++ _)[h.length + 6]? = _
        rw [List.append_assoc, app_get]; rfl) (by simp [sizeMax]; omega) (fun u hu => ⟨[some (.d (encFs fs)), some (.ref (h.length + 2)), some (.int u), some (.ref (h.length + 3)), x4, some (.ref (h.length + 4)), some (.ref (h.length + 5)), none], rfl, fun acc => ?_⟩)]
    · simp
    · have uk := so_mem u hu
      obtain ⟨a', ha'⟩ := dlook_mem uk
      obtain ⟨a, ha⟩ := all u (kσ'.1.2 u uk)
      rw [List.append_assoc]
      show (tVal _ _ (h ++ x :: y :: encM eI σ.1 :: encM eN σ.2 :: encM eI σ'.1 :: encM eN σ'.2 :: [.lst (so.map W.int), .lst acc]) = .ok _ (h ++ x :: y :: encM eI σ.1 :: encM eN σ.2 :: encM eI σ'.1 :: encM eN σ'.2 :: [.lst (so.map W.int), .lst acc])) ∧ (_ → eVar 2 _ (h ++ x :: y :: encM eI σ.1 :: encM eN σ.2 :: encM eI σ'.1 :: encM eN σ'.2 :: [.lst (so.map W.int), .lst acc]) = .ok _ (h ++ x :: y :: encM eI σ.1 :: encM eN σ.2 :: encM eI σ'.1 :: encM eN σ'.2 :: [.lst (so.map W.int), .lst acc]))
      refine ⟨?_, fun _ => rfl⟩
      simp [opIx_dk (g4 _) ha', opIx_dk (g2 _) ha, sm, ha', ha]
  -- the first that became smaller
  have ne : so.filter sm ≠ [] := by
    have hc : (relax fs σ).2 = true := by rw [← hs]; exact always hF _
    obtain ⟨r1, _, r3⟩ := relax_pass fs σ
    rw [r3] at hc
    obtain ⟨f, hf, a, a', k1, k2, k3⟩ := pass_drop hc (fun f hf => all f.1 (hz.2.1 f hf).1)
    rw [← r1, st] at k2
    have fk : f.1 ∈ so := by
      rw [← hso, mem_sortI]
      rcases Decidable.em (f.1 ∈ σ'.1.map (·.1)) with q | q
      · exact q
      · rw [dlook_none.mpr q] at k2; cases k2
    have : f.1 ∈ so.filter sm := List.mem_filter.mpr ⟨fk, by simp [sm, k1, k2, k3]⟩
    exact List.ne_nil_of_mem this
  obtain ⟨u0, us, hus⟩ := List.exists_cons_of_ne_nil ne
  have u0m : u0 ∈ so.filter sm := by rw [hus]; exact List.mem_cons_self
  obtain ⟨m1, m2⟩ := List.mem_filter.mp u0m
  have u0U : u0 ∈ unk fs := kσ'.1.2 u0 (so_mem u0 m1)
  obtain ⟨a', ha'⟩ := dlook_mem (so_mem u0 m1)
  obtain ⟨a, ha⟩ := all u0 u0U
  have lt : a' < a := by simpa [sm, ha, ha'] using m2
  have inv := inv_rounds (fs := fs) (l0 := dlook (s0 fs).1) ((unk fs).length + 1)
  rw [← f1', ← f2'] at inv
  obtain ⟨row, w1, w5, u, t, w2, w3, w4⟩ := walked_round_ok (fs := fs) (U := unk fs) (last := σ'.2) (x := u0) (h := h ++ [x, y, encM eI σ.1, encM eN σ.2, encM eI σ'.1, encM eN σ'.2, .lst (so.map W.int), .lst ((so.filter sm).map W.int)]) (g5 _) hz.2.1 (by omega) u0U inv.2
    (fun u p hp => by obtain ⟨w, c, a, b, q1, q2, q3, q4⟩ := inv.1 u p hp; exact ⟨w, c, q1⟩)
    (fun v ps s k hl => by
      have := root_free (fs := fs) (U := unk fs) (l0 := dlook (s0 fs).1) (fun u a h => zer_val h) rfl (x := u0) (a := a) (a' := a') (by rw [← f1]; exact ha) (by rw [← f1']; exact ha') lt (v := v) (s := s) (ps := ps) (by rw [← f2']; exact k) hl
      rw [← f2'] at this
      exact this)
  have e10 : opIx (.ref (h.length + 7)) (W.int 0) (h ++ [x, y, encM eI σ.1, encM eN σ.2, encM eI σ'.1, encM eN σ'.2, .lst (so.map W.int), .lst ((so.filter sm).map W.int)]) = some (W.int u0, h ++ [x, y, encM eI σ.1, encM eN σ.2, encM eI σ'.1, encM eN σ'.2, .lst (so.map W.int), .lst ((so.filter sm).map W.int)]) :=
    opIx_lst (n := 0) (ws := (so.filter sm).map W.int) (by rw [app_get]; rfl) (by rw [hus]; rfl)
  refine ⟨row, ⟨[x, y, encM eI σ.1, encM eN σ.2, encM eI σ'.1, encM eN σ'.2, .lst (so.map W.int), .lst ((so.filter sm).map W.int)], ?_⟩, w5, u, t, w2, w3, w4⟩
  simp only [sCons_eq, sAsg_eq, eOpN_eq, aCons_eq, aNil_eq, eVar_eq, List.getElem?_cons_succ, List.getElem?_cons_zero, R.bind_ok, e5, R.of_some, R.then_ok, put_nm, Out.seq_nx, List.set_cons_succ, List.set_cons_zero, e6, sExpr_eq, eCall_eq, e7, e9, sRet_eq, eOp2_eq, eCon_eq, e10, w1, Out.seq_rt]
theorem clash_ok {fs : List Fact} {h : Hh} (hn : fs.length < 4000000) (hU : (unk fs).length < 64) :
    (m_clash [.d (encFs fs)] h = .ok .non h ∧ Feas fs) ∨ ∃ row u s, m_clash [.d (encFs fs)] h = .ok (.d (encR row)) h ∧ Walk fs u u row s ∧ row ≠ [] ∧ s < 0 ∧ row.length ≤ (unk fs).length := by
  have hz := unk_ok fs
  have e0 : ∀ s : St2, (hC fs h s).length = h.length + 4 := hC_len fs h
  have eD := dict_zer (U := unk fs) (a := h.length + 1) (M := h ++ [.lst ((unk fs).map W.int), .lst ((unk fs).map fun u => W.d (.tuple [.int u, .int 0]))]) hz.1 (by rw [app_get]; rfl)
  have e1 : (h ++ [O.lst ((unk fs).map W.int), .lst ((unk fs).map fun u => W.d (.tuple [.int u, .int 0]))]) ++ [encM eI (zer (unk fs))] ++ [.dk []] = hC fs h (s0 fs) := by simp [hC, s0, encM]
  have l1 : (h ++ [O.lst ((unk fs).map W.int), .lst ((unk fs).map fun u => W.d (.tuple [.int u, .int 0]))]).length = h.length + 2 := by simp
  have l2 : ((h ++ [O.lst ((unk fs).map W.int), .lst ((unk fs).map fun u => W.d (.tuple [.int u, .int 0]))]) ++ [encM eI (zer (unk fs))]).length = h.length + 3 := by simp
  have eL := len_dk (hC_2 fs h (s0 fs))
  have zl : (s0 fs).1.length = (unk fs).length := by simp [s0, zer]
  have start : b_clash [some (.d (encFs fs)), none, none, none, none, none, none, none] h = (Out.nx [some (.d (encFs fs)), some (.ref (h.length + 2)), none, some (.ref (h.length + 3)), none, none, none, none] (hC fs h (s0 fs))).seq
    (sCons (sFor (iRange1 (eOpN bLen (aCons (eVar 1) aNil))) (.nm 4) l0_clash)
      (sCons (sAsg (.nm 5) (eOpN bDict (aCons (eVar 1) aNil)))
      (sCons (sAsg (.nm 6) (eOpN bDict (aCons (eVar 3) aNil)))
      (sCons (sExpr (eCall m_relaxed (aCons (eVar 0) (aCons (eVar 5) (aCons (eVar 6) aNil)))))
      (sCons (sAsg (.nm 7) (eComp (iSeq (eOpN bSorted (aCons (eVar 5) aNil))) [2] (.nm 2) (tVal (eOp2 opLt (eOp2 opIx (eVar 5) (eVar 2)) (eOp2 opIx (eVar 1) (eVar 2)))) (eVar 2)))
      (sCons (sRet (eCall m_walked_round (aCons (eVar 0) (aCons (eVar 6) (aCons (eOp2 opIx (eVar 7) (eCon (.int 0))) aNil)))))
      sNil)))))) := by
    rw [b_clash, sCons_eq, sAsg_eq, eOpN_eq, aCons_eq, zer_comp hn hU]
    simp only [R.bind_ok, aNil_eq, eD, R.of_some, R.then_ok, put_nm, Out.seq_nx, sCons_eq, sAsg_eq, eNewK_eq, l1, l2, e1, List.set_cons_succ, List.set_cons_zero]
  have hrg : iRange1 (eOpN bLen (aCons (eVar 1) aNil)) [some (.d (encFs fs)), some (.ref (h.length + 2)), none, some (.ref (h.length + 3)), none, none, none, none] (hC fs h (s0 fs)) = .ok (.rg 0 (unk fs).length) (hC fs h (s0 fs)) := by
    simp only [iRange1_eq, eOpN_eq, aCons_eq, eVar_eq, List.getElem?_cons_succ, List.getElem?_cons_zero, R.bind_ok, aNil_eq, eL, R.of_some, zl]
    rw [if_pos (by omega)]
    simp
  rcases clash_loop (h := h) hn hU with ⟨x4, e, hF⟩ | ⟨s, e, hF⟩
  · right
    obtain ⟨row, w1, w5, u, t, w2, w3, w4⟩ := clash_tail (x4 := x4) (h := h) hn hU hF
    refine ⟨row, u, t, ?_, w2, w3, w4, w5⟩
    simp only [m_clash, fn, List.length_cons, List.length_nil, if_true, List.map_cons, List.map_nil, List.replicate, List.cons_append, List.nil_append, Nat.reduceAdd, Nat.reduceSub]
    rw [start, Out.seq_nx, sCons_eq, sFor_eq, hrg, R.then_ok, items_rg, e]
    obtain ⟨G, w1⟩ := w1
    rw [Out.seq_nx, w1]
    simp only [outR_rt, tidy_ok, gc_d_app]
  · left
    refine ⟨?_, hF⟩
    simp only [m_clash, fn, List.length_cons, List.length_nil, if_true, List.map_cons, List.map_nil, List.replicate, List.cons_append, List.nil_append, Nat.reduceAdd, Nat.reduceSub]
    rw [start, Out.seq_nx, sCons_eq, sFor_eq, hrg, R.then_ok, items_rg, e]
    simp only [Out.seq_rt, outR_rt, tidy_ok, hC, gc_d_app]
end Sp
end

section
/-! SpF4: sums_to, chain. -/
namespace Sp
open Mi Sem BF
open PySem (PyData Str)
theorem two_01 {h : Hh} {p q : O} (s : St2) : two (h ++ [p, q]) h.length (h.length + 1) s = h ++ [encM eI s.1, encM eN s.2] := by
  unfold two; rw [app_set0, app_set]; rfl
def hS (h : Hh) (s : St2) : Hh := h ++ [encM eI s.1, encM eN s.2]
theorem hS_0 (h : Hh) (s : St2) : (hS h s)[h.length]? = some (encM eI s.1) := by unfold hS; rw [app_get0]; rfl
theorem hS_1 (h : Hh) (s : St2) : (hS h s)[h.length + 1]? = some (encM eN s.2) := by unfold hS; rw [app_get]; rfl
def s1 (j : Int) : St2 := ([(j, 0)], [])
theorem s1_fst (j : Int) : dlook (s1 j).1 = upd (fun _ => none) j 0 := by
  funext x
  unfold s1
  rw [dlook_cons]; rfl
theorem names_cons {fs : List Fact} {U : List Int} (h : Names fs U) (j : Int) : Names fs (j :: U) := fun f hf => ⟨List.mem_cons_of_mem _ (h f hf).1, List.mem_cons_of_mem _ (h f hf).2⟩
theorem s1_keys (U : List Int) (j : Int) : KeyOk2 (j :: U) (s1 j) := ⟨⟨by simp [s1], by simp [s1]⟩, KeyOk.nil⟩
theorem sums_to_ok {fs : List Fact} {h : Hh} {j : Int} (hn : fs.length < 4000000) (hU : (unk fs).length < 64) (hF : Feas fs) :
    ∃ n, m_sums_to [.d (encFs fs), .d (.int j)] h = .ok (.mix [.ref h.length, .ref (h.length + 1)]) (hS h (relaxN fs (n + 1) (s1 j))) ∧ (relax fs (relaxN fs n (s1 j))).2 = false := by
  have hV := names_cons (unk_ok fs).2.1 j
  obtain ⟨L2, h2, e, t, n, rfl, rfl, hc⟩ := whileL_nat (t := tVal (eCall m_relaxed (aCons (eVar 0) (aCons (eVar 2) (aCons (eVar 3) aNil))))) (body := l0_sums_to)
    (fun m L h' => ∃ (t : Int) (n : Nat), L = [some (.d (encFs fs)), some (.int j), some (.ref h.length), some (.ref (h.length + 1)), some (.int t)] ∧ h' = hS h (relaxN fs n (s1 j)) ∧ m + n = (unk fs).length)
    (fun L h' => ∃ (t : Int) (n : Nat), L = [some (.d (encFs fs)), some (.int j), some (.ref h.length), some (.ref (h.length + 1)), some (.int t)] ∧ h' = hS h (relaxN fs (n + 1) (s1 j)) ∧ (relax fs (relaxN fs n (s1 j))).2 = false)
    (fun m L h' ⟨t, n, e1, e2, hm⟩ => by
      subst e1 e2
      have hr : m_relaxed [.d (encFs fs), .ref h.length, .ref (h.length + 1)] (hS h (relaxN fs n (s1 j))) = .ok (.bool (relax fs (relaxN fs n (s1 j))).2) (hS h (relaxN fs (n + 1) (s1 j))) := by
        rw [relaxed_ok (s := relaxN fs n (s1 j)) (hS_0 h _) (hS_1 h _) (by omega) hV (by simp; omega) hn (relaxN_keys hV (s1_keys _ j) n)]
        unfold hS; rw [two_01]; rfl
      cases hc : (relax fs (relaxN fs n (s1 j))).2 with
      | false =>
        rw [hc] at hr
        exact .inl ⟨_, by simp [hr], t, n, rfl, rfl, hc⟩
      | true =>
        rw [hc] at hr
        refine .inr ⟨hS h (relaxN fs (n + 1) (s1 j)), [some (.d (encFs fs)), some (.int j), some (.ref h.length), some (.ref (h.length + 1)), some (.int (t + 1))], hS h (relaxN fs (n + 1) (s1 j)), by simp [hr], .inl (by simp [l0_sums_to]), m - 1, ?_, t + 1, n + 1, rfl, rfl, ?_⟩
        all_goals
          have : ¬ (unk fs).length ≤ n := fun hle => by
            rw [(relax_pass fs _).2.2, relaxN_fst, relaxN_snd] at hc
            exact infeas_of hV (show (j :: unk fs).length ≤ n + 1 by simp; omega) hc hF
          omega) 1000000 (unk fs).length (L := [some (.d (encFs fs)), some (.int j), some (.ref h.length), some (.ref (h.length + 1)), some (.int 0)]) (h := hS h (s1 j)) ⟨0, 0, rfl, rfl, by simp⟩ (by omega)
  refine ⟨n, ?_, hc⟩
  have e0 : eDisp [((eVar 1), (eCon (.int 0)))] [some (.d (encFs fs)), some (.int j), none, none, none] h = .ok (.ref h.length) (h ++ [encM eI [(j, 0)]]) := by
    simp [eDisp, evPairs, keyW, merge, put, encM]
  have e1 : (h ++ [encM eI [(j, 0)]]) ++ [.dk []] = hS h (s1 j) := by simp [hS, s1, encM]
  simp only [m_sums_to, fn, b_sums_to, List.length_cons, List.length_nil, if_true, List.map_cons, List.map_nil, List.replicate, List.cons_append, List.nil_append, Nat.reduceAdd, Nat.reduceSub, sCons_eq, sAsg_eq, e0, R.then_ok, put_nm, Out.seq_nx, List.set_cons_succ, List.set_cons_zero, eNewK_eq, eCon_eq, sWhile_eq, e1]
  have l1 : (h ++ [encM eI [(j, 0)]]).length = h.length + 1 := by simp
  rw [l1, e]
  simp [mkTup, allD, sizeMax, gc, W.und, W.unds, hS]
/-- behind the rounds: no sum can become smaller -/
structure Done (fs : List Fact) (j : Int) (l : Mp) (q : Pi) : Prop where
  base : l j = some 0
  least : ∀ {u s : Int} {ps : List Nat}, Walk fs u j ps s → ∃ a, l u = some a ∧ a ≤ s
  back : ∀ u a, l u = some a → u = j ∨ ∃ p, q u = some p
  inv : InvA fs l q
  neg : InvN fs q
theorem stable_walk {fs : List Fact} {l : Mp} {q : Pi} (h : (pass fs l q).2.2 = false) {u v s : Int} {ps : List Nat} (k : Walk fs u v ps s) : ∀ {b : Int}, l v = some b → ∃ a, l u = some a ∧ a ≤ s + b := by
  induction k with
  | nil => intro b hb; exact ⟨b, hb, by omega⟩
  | cons hf _ ih =>
    intro b hb
    obtain ⟨a, ha, e⟩ := ih hb
    obtain ⟨a', ha', e'⟩ := pass_stable h hf ha
    exact ⟨a', ha', by omega⟩
theorem done_of {fs : List Fact} {j : Int} (hF : Feas fs) {n : Nat} (hc : (relax fs (relaxN fs n (s1 j))).2 = false) : Done fs j (dlook (relaxN fs (n + 1) (s1 j)).1) (dlook (relaxN fs (n + 1) (s1 j)).2) := by
  have f1 := relaxN_fst fs (s1 j) (n + 1)
  have f2 := relaxN_snd fs (s1 j) (n + 1)
  have d1 : dlook (s1 j).2 = fun _ => none := rfl
  rw [s1_fst, d1] at f1 f2
  rw [(relax_pass fs _).2.2, relaxN_fst, relaxN_snd, s1_fst, d1] at hc
  have same := passTo_false hc
  have g1 : (rounds fs (n + 1) (upd (fun _ => none) j 0, fun _ => none)).1 = (rounds fs n (upd (fun _ => none) j 0, fun _ => none)).1 := congrArg (·.1) same
  have w0 : InvW fs (upd (fun _ => none) j 0) (upd (fun _ => none) j 0) := fun u a h => ⟨u, [], 0, a, .nil _, h, by omega⟩
  have w1 : InvW fs (upd (fun _ => none) j 0) (rounds fs n (upd (fun _ => none) j 0, fun _ => none)).1 := rounds_inv (s := (upd (fun _ => none) j 0, fun _ => none)) (fun x _ => InvW fs (upd (fun _ => none) j 0) x) (fun x _ p i j c b h1 h2 _ h => invW_upd h1 h2 h) w0 n
  obtain ⟨b, hb, hb0⟩ := rounds_le fs (upd (fun _ => none) j 0, fun _ => none) n j 0 (by show upd (fun _ => none) j 0 j = some 0; exact upd_same)
  have b0 : b = 0 := by
    obtain ⟨v, ps, s, b', k1, k2, k3⟩ := w1 j b hb
    by_cases e : v = j
    · subst e
      rw [upd_same] at k2; cases k2
      have := hF.cycle k1
      omega
    · rw [upd_ne e] at k2; cases k2
  subst b0
  rw [f1, f2]
  have inv := inv_rounds (fs := fs) (l0 := upd (fun _ => none) j 0) (n + 1)
  refine ⟨by rw [g1]; exact hb, fun {u s ps} k => ?_, last_there (n + 1), inv.1, inv.2⟩
  obtain ⟨a, ha, e⟩ := stable_walk hc k hb
  exact ⟨a, by rw [g1]; exact ha, by omega⟩
theorem noround {fs : List Fact} {q : Pi} (hF : Feas fs) (hN : InvN fs q) {u v s : Int} {ps : List Nat} {ns : List Int} (k : BackN fs q u v ps ns s) : ns.Nodup := by
  refine Decidable.byContradiction fun h => ?_
  obtain ⟨a, y, b, c, rfl⟩ := twice h
  obtain ⟨ps1, t1, ps2, t2, -, h2, -, -⟩ := BackN.split (a := a) (b := b ++ y :: c) (by simpa using k)
  obtain ⟨ps3, t3, ps4, t4, h3, -, -, -⟩ := BackN.split (a := y :: b) (b := c) h2
  have e1 := hF.cycle h3.walkN.walk
  have e2 := hN y ps3 t3 h3.back (fun e => by have := h3.walkN.len; simp [e] at this)
  omega
/-- what chain answers: nothing, a chain, a round -/
inductive Answer (fs : List Fact) (i j c : Int) : W → Prop where
  | none : Feas fs → (∀ ps s, Walk fs i j ps s → c < s) → Answer fs i j c .non
  | chain {row : List Nat} {s : Int} : Walk fs i j row s → s ≤ c → row.length < 64 → Answer fs i j c (.d (encR row))
  | round {row : List Nat} {u s : Int} : Walk fs u u row s → row ≠ [] → s < 0 → row.length < 64 → Answer fs i j c (.d (encR row))
theorem chain_loop {fs : List Fact} {h : Hh} {i j c : Int} {last : List (Int × Nat)} {l : Mp} {b : Nat} {x4 x5 x6 : Option W} (hb : h[b]? = some (encM eN last)) (hU : (unk fs).length < 64) (hF : Feas fs) (D : Done fs j l (dlook last)) {a : Int} (ha : l i = some a) :
    ∃ row s, whileL (tVal (eOp2 opNe (eVar 2) (eVar 3))) l0_chain 1000000 [some (.d (encFs fs)), some (.d (encF (i, j, c))), some (.int i), some (.int j), x4, x5, x6, some (.ref b), some (.ref h.length)] (h ++ [.lst []]) =
      .nx [some (.d (encFs fs)), some (.d (encF (i, j, c))), some (.int j), some (.int j), x4, x5, x6, some (.ref b), some (.ref h.length)] (h ++ [.lst (wR row)]) ∧ Walk fs i j row s ∧ s ≤ a ∧ row.length ≤ (unk fs).length := by
  have lb : b < h.length := (List.getElem?_eq_some_iff.mp hb).1
  have hB : ∀ l : Hh, (h ++ l)[b]? = some (encM eN last) := fun l => by rw [List.getElem?_append_left lb]; exact hb
  obtain ⟨L2, h2, e, row, ns, s, rfl, rfl, k, hrl⟩ := whileL_nat (t := tVal (eOp2 opNe (eVar 2) (eVar 3))) (body := l0_chain)
    (fun m L h' => ∃ u row ns s a, L = [some (.d (encFs fs)), some (.d (encF (i, j, c))), some (.int u), some (.int j), x4, x5, x6, some (.ref b), some (.ref h.length)] ∧ h' = h ++ [.lst (wR row)] ∧ BackN fs (dlook last) i u row ns s ∧ l u = some a ∧ m + row.length = (unk fs).length)
    (fun L h' => ∃ row ns s, L = [some (.d (encFs fs)), some (.d (encF (i, j, c))), some (.int j), some (.int j), x4, x5, x6, some (.ref b), some (.ref h.length)] ∧ h' = h ++ [.lst (wR row)] ∧ BackN fs (dlook last) i j row ns s ∧ row.length ≤ (unk fs).length)
    (fun m L h' ⟨u, row, ns, s, a, e1, e2, k, ha, hm⟩ => by
      subst e1 e2
      by_cases hj : u = j
      · subst hj
        exact .inl ⟨_, by simp, row, ns, s, rfl, rfl, k, by omega⟩
      · right
        obtain ⟨p, hp⟩ : ∃ p, dlook last u = some p := by
          rcases D.back u a ha with q | q
          · exact (hj q).elim
          · exact q
        obtain ⟨w, d, a', b', q1, q2, q3, q4⟩ := D.inv u p hp
        have k2 := k.snoc hp q1
        have ml : row.length + 1 ≤ (unk fs).length := by
          have := nodup_le (noround hF D.neg k2) (k2.walkN.mem (unk_ok fs).2.1)
          rw [k2.walkN.len] at this
          simpa using this
        have hg : (h ++ [O.lst (wR row)])[h.length]? = some (.lst (wR row)) := by simp
        refine ⟨h ++ [.lst (wR row)], [some (.d (encFs fs)), some (.d (encF (i, j, c))), some (.int w), some (.int j), x4, x5, x6, some (.ref b), some (.ref h.length)], h ++ [.lst (wR (row ++ [p]))], by simp [hj], .inl ?_, m - 1, by omega, w, row ++ [p], ns ++ [u], s + d, b', rfl, rfl, k2, q3, by simp; omega⟩
        have e9 := app_lst hg (x := W.int (p : Int)) (show (wR row).length < 16777216 by simp; omega)
        rw [app_set0, wR_snoc] at e9
        simp only [List.set_cons_zero] at e9
        simp only [l0_chain, sCons_eq, sExpr_eq, eMetL_eq, eVar_eq, List.getElem?_cons_succ, List.getElem?_cons_zero, R.bind_ok, isLst_of hg, if_true, aCons_eq, aNil_eq, eOp2_eq, opIx_dk (hB _) hp, R.of_some, e9, R.then_ok, Out.seq_nx, sAsg_eq, ix_Fs q1, ix_F1, eCon_eq, put_nm, sNil_eq, List.set_cons_succ, List.set_cons_zero]) 1000000 (unk fs).length
      (L := [some (.d (encFs fs)), some (.d (encF (i, j, c))), some (.int i), some (.int j), x4, x5, x6, some (.ref b), some (.ref h.length)]) (h := h ++ [.lst (wR [])]) ⟨i, [], [], 0, a, rfl, rfl, .nil i, ha, by simp⟩ (by omega)
  refine ⟨row, s, e, k.walkN.walk, ?_, hrl⟩
  obtain ⟨a', ha', e'⟩ := back_le D.inv k.back D.base
  rw [ha] at ha'; cases ha'
  omega
theorem chain_ok {fs : List Fact} {h : Hh} {i j c : Int} (hn : fs.length < 4000000) (hU : (unk fs).length < 64) :
    ∃ w, m_chain [.d (encFs fs), .d (encF (i, j, c))] h = .ok w h ∧ Answer fs i j c w := by
  have start : ∀ x, ∀ rest : SM, m_clash [.d (encFs fs)] h = .ok x h → (sCons (sAsg (.tp [2, 3, 4]) (eVar 1)) (sCons (sAsg (.nm 5) (eCall m_clash (aCons (eVar 0) aNil))) rest)) [some (.d (encFs fs)), some (.d (encF (i, j, c))), none, none, none, none, none, none, none] h =
      rest [some (.d (encFs fs)), some (.d (encF (i, j, c))), some (.int i), some (.int j), some (.int c), some x, none, none, none] h := fun x rest e => by
    simp [setAll, e]
  rcases clash_ok (h := h) hn hU with ⟨e, hF⟩ | ⟨row, u, s, e, k1, k2, k3, k4⟩
  · obtain ⟨n, e2, hc⟩ := sums_to_ok (h := h) (j := j) hn hU hF
    have D := done_of hF hc
    generalize relaxN fs (n + 1) (s1 j) = σ at e2 D
    have g0 := hS_0 h σ
    have g1 := hS_1 h σ
    simp only [m_chain, fn, List.length_cons, List.length_nil, if_true, List.map_cons, List.map_nil, List.replicate, List.cons_append, List.nil_append, Nat.reduceAdd, Nat.reduceSub, b_chain]
    rw [start _ _ e]
    have bad : (∀ a, dlook σ.1 i = some a → c < a) → Answer fs i j c .non := fun hb => .none hF fun ps s k => by
      obtain ⟨a, ha, e⟩ := D.least k
      have := hb a ha
      omega
    cases hi : dlook σ.1 i with
    | none =>
      refine ⟨.non, ?_, bad (fun a ha => by rw [hi] at ha; cases ha)⟩
      simp [opIsN, isN, e2, setAll, W.items, opIn_dk g0, hi]
      simp [hS]
    | some a =>
      by_cases hca : c < a
      · refine ⟨.non, ?_, bad (fun a' ha => by rw [hi] at ha; cases ha; exact hca)⟩
        simp [opIsN, isN, e2, setAll, W.items, opIn_dk g0, hi, opIx_dk g0 hi, hca]
        simp [hS]
      · obtain ⟨row, s, e3, k, hs, hrl⟩ := chain_loop (h := hS h σ) (c := c) (x4 := some (.int c)) (x5 := some .non) (x6 := some (.ref h.length)) g1 hU hF D hi
        refine ⟨.d (encR row), ?_, .chain k (by omega) (by omega)⟩
        have eT := tuple_row (row := row) (a := (hS h σ).length) (M := hS h σ ++ [.lst (wR row)]) (by simp)
        simp [opIsN, isN, e2, setAll, W.items, opIn_dk g0, hi, opIx_dk g0 hi, hca]
        rw [e3]
        simp [eT]
        simp [hS]
  · refine ⟨.d (encR row), ?_, .round k1 k2 k3 (by omega)⟩
    simp only [m_chain, fn, List.length_cons, List.length_nil, if_true, List.map_cons, List.map_nil, List.replicate, List.cons_append, List.nil_append, Nat.reduceAdd, Nat.reduceSub, b_chain]
    rw [start _ _ e]
    simp [opIsN, isN, encR]
end Sp
end

section
/-! SpF5: goes_on, proves, fulfil. -/
namespace BF
theorem Walk.det {fs : List Fact} {u v s : Int} {ps : List Nat} (h : Walk fs u v ps s) : ∀ {v' s' : Int}, Walk fs u v' ps s' → v = v' ∧ s = s' := by
  induction h with
  | nil => intro v' s' k; cases k; exact ⟨rfl, rfl⟩
  | cons hf _ ih =>
    intro v' s' k
    cases k with
    | cons hf' k' =>
      rw [hf] at hf'; cases hf'
      obtain ⟨a, b⟩ := ih k'
      exact ⟨a, by rw [b]⟩
theorem Walk.first {fs : List Fact} {u v s : Int} {p : Nat} {ps : List Nat} (h : Walk fs u v (p :: ps) s) : ∃ w c, fs[p]? = some (u, w, c) := by
  cases h with
  | cons hf _ => exact ⟨_, _, hf⟩
theorem Walk.snoc {fs : List Fact} {u v w c s : Int} {p : Nat} {ps : List Nat} (h : Walk fs u v ps s) (hf : fs[p]? = some (v, w, c)) : Walk fs u w (ps ++ [p]) (s + c) := by
  have := h.append (.cons hf (.nil w))
  simpa [Int.add_comm] using this
theorem Walk.split {fs : List Fact} : ∀ {ps qs : List Nat} {u v s : Int}, Walk fs u v (ps ++ qs) s → ∃ w s1 s2, Walk fs u w ps s1 ∧ Walk fs w v qs s2 ∧ s = s1 + s2
  | [], qs, u, v, s, h => ⟨u, 0, s, .nil u, h, by omega⟩
  | p :: ps, qs, u, v, s, h => by
    cases h with
    | cons hf k =>
      obtain ⟨w, s1, s2, a, b, rfl⟩ := Walk.split k
      exact ⟨w, _, s2, .cons hf a, b, by omega⟩
theorem Walk.last {fs : List Fact} {u v s : Int} {p : Nat} {ps : List Nat} (h : Walk fs u v (ps ++ [p]) s) : ∃ w c, fs[p]? = some (w, v, c) := by
  obtain ⟨w, s1, s2, _, k, _⟩ := Walk.split h
  cases k with
  | cons hf k => cases k; exact ⟨_, _, hf⟩
end BF
namespace Sp
open Mi Sem BF
open PySem (PyData Str)
/-- a row shows a fact, or is a round that cannot be -/
def Prv (fs : List Fact) (i j c : Int) (row : List Nat) : Prop := (∃ s, Walk fs i j row s ∧ s ≤ c) ∨ (row ≠ [] ∧ ∃ u s, Walk fs u u row s ∧ s < 0)
theorem Answer.prv {fs : List Fact} {i j c : Int} {w : W} (h : Answer fs i j c w) : w = .non ∨ ∃ row, w = .d (encR row) ∧ Prv fs i j c row ∧ row.length < 64 := by
  cases h with
  | none => exact .inl rfl
  | chain k hs hl => exact .inr ⟨_, rfl, .inl ⟨_, k, hs⟩, hl⟩
  | round k hn hs hl => exact .inr ⟨_, rfl, .inr ⟨hn, _, _, k, hs⟩, hl⟩
@[simp] theorem len_R (row : List Nat) (M : Hh) : bLen [.d (encR row)] M = some (.int row.length, M) := by simp [bLen, encR, W.items]
@[simp] theorem items_R (row : List Nat) : (W.d (encR row)).items = some (wR row) := by simp [encR, W.items, wR]
theorem ix_R {row : List Nat} {n p : Nat} {M : Hh} (h : row[n]? = some p) : opIx (.d (encR row)) (.d (.int (n : Int))) M = some (.int (p : Int), M) := opIx_tup (by simp [h])
theorem opIx_tupI (xs : List PyData) (i : Int) (M : Hh) : opIx (.d (.tuple xs)) (.d (.int i)) M = (atI (xs.map W.d) i).map fun w => (w, M) := (rfl)
theorem ix_R_last {row : List Nat} {p : Nat} {M : Hh} : opIx (.d (encR (row ++ [p]))) (.d (.int (-1))) M = some (.int (p : Int), M) := by
  have e : atI ((wR row) ++ [W.int (p : Int)]) (-1) = some (W.int (p : Int)) := by
    simp [atI, ixN]
    rw [if_pos (by omega)]
    simp
    rw [List.getElem?_append_right (by simp; omega)]
    simp
    have : (-1 + ((row.length : Int) + 1)).toNat - row.length = 0 := by omega
    rw [this]; rfl
  rw [encR, opIx_tupI, ← wR_d, ← wR_snoc, e]; rfl
theorem eq_unit (xs : List PyData) (neg : Bool) (M : Hh) : opEqB neg (.d (.tuple xs)) (.d (.tuple [])) M = some (.bool (neg != xs.isEmpty), M) := by
  have : min (PyData.tuple xs).depth (PyData.tuple []).depth ≤ roomDeep := by
    refine Nat.le_trans (Nat.min_le_right _ _) ?_
    simp [PyData.depth, PyData.depthAll, roomDeep]
  simp only [opEqB, dataW_d, this, if_true]
  cases xs <;> simp [PyData.eqv, PyData.eqvAll]
theorem goes_on_ok {fs : List Fact} {h : Hh} {row : List Nat} (hl : row.length < 4611686018427387904) (hp : ∀ p ∈ row, p < fs.length) {u : Int} (hu : ∀ p w, row[0]? = some p → fs[p]? = some w → w.1 = u) :
    (∃ v s, m_goes_on [.d (encFs fs), .d (encR row)] h = .ok (.int s) h ∧ Walk fs u v row s) ∨ (m_goes_on [.d (encFs fs), .d (encR row)] h = .ok .non h ∧ ∀ v s, ¬ Walk fs u v row s) := by
  have st : ∀ o, (forL (Src.rg 0 row.length).ok (.nm 3) l0_goes_on (rgItems 0 row.length) [some (.d (encFs fs)), some (.d (encR row)), some (.int 0), none] h = o) → m_goes_on [.d (encFs fs), .d (encR row)] h = tidy h (outR h (o.seq (sCons (sRet (eVar 2)) sNil))) := fun o e => by
    simp [m_goes_on, fn, b_goes_on, List.replicate]
    rw [if_pos (by omega)]
    simp only [R.then_ok, items_rg, e]
  rcases forL_numR (ok := (Src.rg 0 row.length).ok) (g := .nm 3) (body := l0_goes_on) (n := row.length)
    (fun n L h' => h' = h ∧ ∃ x3 v s, L = [some (.d (encFs fs)), some (.d (encR row)), some (.int s), x3] ∧ Walk fs u v (row.take n) s)
    (fun w h2 => w = .non ∧ h2 = h ∧ ∀ v s, ¬ Walk fs u v row s) (fun _ _ _ _ => trivial)
    (fun n L h' hn ⟨e1, x3, v, s, e2, k⟩ => by
      subst e1 e2
      refine ⟨[some (.d (encFs fs)), some (.d (encR row)), some (.int s), some (.int (n : Int))], rfl, ?_⟩
      have hr : row[n]? = some row[n] := by simp [hn]
      generalize hpn : row[n] = p at hr
      have pl : p < fs.length := hp p (List.mem_of_getElem? hr)
      have hf : fs[p]? = some fs[p] := by simp [pl]
      generalize fs[p] = f at hf
      obtain ⟨i, j, c⟩ := f
      have ht : row.take (n + 1) = row.take n ++ [p] := by rw [List.take_succ, hr]; rfl
      by_cases hv : v = i
      · subst hv
        refine .inl ⟨[some (.d (encFs fs)), some (.d (encR row)), some (.int (s + c)), some (.int (n : Int))], h', .inl ?_, rfl, _, j, s + c, rfl, by rw [ht]; exact k.snoc hf⟩
        cases n with
        | zero =>
          have e8 : opIx (.d (encR row)) (.d (.int 0)) h' = some (.int (p : Int), h') := ix_R (n := 0) hr
          simp [l0_goes_on, e8, ix_Fs hf]
        | succ m =>
          have hr' : row[m]? = some row[m] := by
            have : m < row.length := by omega
            simp [this]
          have ht' : row.take (m + 1) = row.take m ++ [row[m]] := by rw [List.take_succ, hr']; rfl
          rw [ht'] at k
          obtain ⟨w, d, hf'⟩ := k.last
          have e8 := ix_R (n := m + 1) (M := h') hr
          generalize hz : ((m + 1 : Nat) : Int) = z at e8 ⊢
          have pos : (0 : Int) < z := by omega
          have e9 : z - 1 = (m : Int) := by omega
          simp [l0_goes_on, pos, e9, e8, ix_R (n := m) hr', ix_Fs hf, ix_Fs hf']
      · have no : ∀ v s, ¬ Walk fs u v row s := fun v' s' k' => by
          have := List.take_append_drop (n + 1) row
          rw [← this, ht, List.append_assoc] at k'
          obtain ⟨w, t1, t2, k1, k2, _⟩ := k'.split
          obtain ⟨e, _⟩ := k.det k1
          subst e
          obtain ⟨w', d, hf'⟩ := Walk.first k2
          rw [hf] at hf'; cases hf'
          exact hv rfl
        refine .inr ⟨.non, h', ?_, rfl, rfl, no⟩
        cases n with
        | zero =>
          exfalso
          rw [List.take_zero] at k
          cases k
          exact hv (hu p _ hr hf).symm
        | succ m =>
          have hr' : row[m]? = some row[m] := by
            have : m < row.length := by omega
            simp [this]
          have ht' : row.take (m + 1) = row.take m ++ [row[m]] := by rw [List.take_succ, hr']; rfl
          rw [ht'] at k
          obtain ⟨w, d, hf'⟩ := k.last
          have e8 := ix_R (n := m + 1) (M := h') hr
          generalize hz : ((m + 1 : Nat) : Int) = z at e8 ⊢
          have pos : (0 : Int) < z := by omega
          have e9 : z - 1 = (m : Int) := by omega
          simp [l0_goes_on, pos, e9, e8, ix_R (n := m) hr', ix_Fs hf, ix_Fs hf', hv])
    (L := [some (.d (encFs fs)), some (.d (encR row)), some (.int 0), none]) (h := h) ⟨rfl, none, u, 0, rfl, .nil u⟩ with ⟨L2, h2, e, rfl, x3, v, s, rfl, k⟩ | ⟨w, h2, e, rfl, rfl, k⟩
  · left
    rw [List.take_length] at k
    exact ⟨v, s, by rw [st _ e]; simp, k⟩
  · right
    exact ⟨by rw [st _ e]; simp, k⟩
/-- no place of a fact -/
def isPl (fs : List Fact) (x : PyData) : Prop := ∃ p : Nat, x = .int (p : Int) ∧ p < fs.length
theorem row_of {fs : List Fact} : ∀ {xs : List PyData}, (∀ x ∈ xs, isPl fs x) → ∃ row : List Nat, xs = (row.map fun (p : Nat) => PyData.int (p : Int)) ∧ ∀ p ∈ row, p < fs.length
  | [], _ => ⟨[], rfl, fun p h => by cases h⟩
  | x :: xs, h => by
    obtain ⟨p, rfl, hp⟩ := h x List.mem_cons_self
    obtain ⟨row, rfl, hr⟩ := row_of (fs := fs) (xs := xs) (fun y hy => h y (List.mem_cons_of_mem _ hy))
    exact ⟨p :: row, rfl, fun q hq => by
      rcases List.mem_cons.mp hq with rfl | hq
      · exact hp
      · exact hr q hq⟩
/-- plain data: no dict -/
def plain : PyData → Bool
  | .dict _ => false
  | _ => true
theorem isPl_int {fs : List Fact} {n : Int} : isPl fs (.int n) ↔ 0 ≤ n ∧ n < fs.length := by
  constructor
  · rintro ⟨p, e, hp⟩; cases e; omega
  · rintro ⟨a, b⟩; exact ⟨n.toNat, by rw [Int.toNat_of_nonneg a], by omega⟩
/-- a test of places, as a loop -/
theorem pl_loop {fs : List Fact} {xs : List PyData} {h : Hh} {body : SM} {i : Nat} {X : Option W → Loc} (hX : ∀ o w, (Tg.nm i).put w (X o) = some (X (some w))) (hx : ∀ x ∈ xs, plain x = true)
    (hb : ∀ x, plain x = true → (isPl fs x → body (X (some (.d x))) h = .nx (X (some (.d x))) h) ∧ (¬ isPl fs x → body (X (some (.d x))) h = .rt (.bool false) h)) (x0 : Option W) :
    ((∃ x3, forL (Src.tp (xs.map W.d)).ok (.nm i) body (xs.map W.d) (X x0) h = .nx (X x3) h) ∧ ∀ x ∈ xs, isPl fs x) ∨ (forL (Src.tp (xs.map W.d)).ok (.nm i) body (xs.map W.d) (X x0) h = .rt (.bool false) h ∧ ¬ ∀ x ∈ xs, isPl fs x) := by
  rcases forL_pre (ok := (Src.tp (xs.map W.d)).ok) (g := .nm i) (body := body) (enc := W.d) (xs := xs)
    (fun pre L h' => h' = h ∧ (∃ x3, L = X x3) ∧ ∀ x ∈ pre, isPl fs x) (fun w h2 => w = .bool false ∧ h2 = h ∧ ¬ ∀ x ∈ xs, isPl fs x) (fun _ _ _ _ => trivial)
    (fun pre x post L h' e ⟨e1, ⟨x3, e2⟩, hpre⟩ => by
      subst e1 e2
      refine ⟨X (some (.d x)), hX _ _, ?_⟩
      have hm : x ∈ xs := by rw [e]; simp
      obtain ⟨b1, b2⟩ := hb x (hx x hm)
      by_cases hi : isPl fs x
      · refine .inl ⟨_, _, .inl (b1 hi), rfl, ⟨_, rfl⟩, fun y hy => ?_⟩
        rcases List.mem_append.mp hy with hy | hy
        · exact hpre y hy
        · simp at hy; rw [hy]; exact hi
      · exact .inr ⟨_, _, b2 hi, rfl, rfl, fun z => hi (z x hm)⟩)
    (L := X x0) (h := h) ⟨rfl, ⟨x0, rfl⟩, fun x hx => by cases hx⟩ with ⟨L2, h2, e, rfl, ⟨x3, rfl⟩, k⟩ | ⟨w, h2, e, rfl, rfl, k⟩
  · exact .inl ⟨⟨x3, e⟩, k⟩
  · exact .inr ⟨e, k⟩
theorem tyW_R (row : List Nat) (M : Hh) : tyW M (.d (encR row)) = some "tuple" := (rfl)
/-- the answer for a thing -/
def Tells (fs : List Fact) (i j c : Int) (h : Hh) (w : W) (b : Bool) : Prop := b = true ↔ ∃ row : List Nat, w = .d (encR row) ∧ (∀ p ∈ row, p < fs.length) ∧ Prv fs i j c row
/-- a thing: no tuple, or one of plain data -/
def Thing (h : Hh) (w : W) : Prop := (∃ t, tyW h w = some t ∧ t ≠ "tuple") ∨ ∃ xs, w = .d (.tuple xs) ∧ ∀ x ∈ xs, plain x = true
theorem encR_inj {a b : List Nat} (h : W.d (encR a) = W.d (encR b)) : a = b := by
  unfold encR at h
  simp only [W.d.injEq, PyData.tuple.injEq] at h
  have : Function.Injective fun (p : Nat) => PyData.int (p : Int) := fun x y e => by simp at e; omega
  exact (List.map_inj_right (fun x y e => this e)).mp h
theorem tells_not {fs : List Fact} {i j c : Int} {h : Hh} {w : W} (hw : ∀ row : List Nat, w = .d (encR row) → ¬ ∀ p ∈ row, p < fs.length) : Tells fs i j c h w false := by
  unfold Tells
  simp
  rintro row e hp
  exact (hw row e hp).elim
theorem proves_ok {fs : List Fact} {i j c : Int} {h : Hh} {w : W} (hl : ∀ xs, w = .d (.tuple xs) → xs.length < 4611686018427387904) (hw : Thing h w) :
    ∃ b, m_proves [.d (encFs fs), .d (encF (i, j, c)), w] h = .ok (.bool b) h ∧ Tells fs i j c h w b := by
  rcases hw with ⟨t, ht, hne⟩ | ⟨xs, rfl, hx⟩
  · refine ⟨false, ?_, tells_not (fun row e => ?_)⟩
    · simp [m_proves, fn, b_proves, isI, ht, hne]
    · subst e
      simp [encR, tyW] at ht
      exact (hne ht.symm).elim
  · rcases pl_loop (fs := fs) (h := h) (body := l0_proves) (i := 3) (X := fun o => [some (.d (encFs fs)), some (.d (encF (i, j, c))), some (.d (.tuple xs)), o, none, none, none, none, none, none]) (fun _ _ => rfl) hx (fun x px => by
        constructor
        · rintro ⟨p, rfl, hp⟩
          simp [l0_proves, is_integer_ok (h := h) (w := W.int (p : Int)) (t := "int") rfl, hp]
        · intro hn
          cases x with
          | int n =>
            rw [isPl_int] at hn
            simp [l0_proves, is_integer_ok (h := h) (w := W.int n) (t := "int") rfl]
            by_cases h0 : 0 ≤ n
            · have : ¬ n < (fs.length : Int) := fun z => hn ⟨h0, z⟩
              simp [h0, this]
            · simp [h0]
          | none => simp [l0_proves, is_integer_ok (h := h) (w := W.d .none) (t := "NoneType") rfl]
          | bool b => simp [l0_proves, is_integer_ok (h := h) (w := W.d (.bool b)) (t := "bool") rfl]
          | str s => simp [l0_proves, is_integer_ok (h := h) (w := W.d (.str s)) (t := "str") rfl]
          | list s => simp [l0_proves, is_integer_ok (h := h) (w := W.d (.list s)) (t := "list") rfl]
          | tuple s => simp [l0_proves, is_integer_ok (h := h) (w := W.d (.tuple s)) (t := "tuple") rfl]
          | dict s => cases px) none with ⟨⟨x3, e⟩, hall⟩ | ⟨e, hnot⟩
    · obtain ⟨row, rfl, hr⟩ := row_of hall
      have tell : ∀ b, (b = true ↔ Prv fs i j c row) → Tells fs i j c h (.d (encR row)) b := fun b hb => by
        unfold Tells
        rw [hb]
        exact ⟨fun q => ⟨row, rfl, hr, q⟩, fun ⟨row', e', _, q⟩ => by rw [encR_inj e']; exact q⟩
      have hh : (W.d (encR row)).items = some (wR row) := items_R row
      cases row with
      | nil =>
        refine ⟨decide (i = j ∧ 0 ≤ c), ?_, tell _ ?_⟩
        · simp [m_proves, fn, b_proves, isI, tyW, List.replicate]
          simp only [List.map_nil] at e
          rw [e]
          simp [eq_unit, setAll, mkTup, allD]
          by_cases hij : i = j <;> simp [hij]
        · simp only [decide_eq_true_eq]
          constructor
          · rintro ⟨rfl, hc⟩; exact .inl ⟨0, .nil _, hc⟩
          · rintro (⟨s, k, hs⟩ | ⟨hn, _⟩)
            · cases k; exact ⟨rfl, hs⟩
            · exact (hn rfl).elim
      | cons p ps =>
        have hp : p < fs.length := hr p List.mem_cons_self
        have hf : fs[p]? = some fs[p] := by simp [hp]
        generalize fs[p] = f at hf
        obtain ⟨u, u', d⟩ := f
        have hl' := hl _ rfl
        rw [List.length_map] at hl'
        rw [← wR_d] at e
        change forL _ _ _ _ [_, _, some (.d (encR (p :: ps))), _, _, _, _, _, _, _] h = .nx [_, _, some (.d (encR (p :: ps))), _, _, _, _, _, _, _] h at e
        change ∃ b, m_proves [_, _, .d (encR (p :: ps))] h = _ ∧ Tells fs i j c h (.d (encR (p :: ps))) b
        have st : ∀ o, m_goes_on [.d (encFs fs), .d (encR (p :: ps))] h = .ok o h → m_proves [.d (encFs fs), .d (encF (i, j, c)), .d (encR (p :: ps))] h = tidy h (outR h (
            (sCons (sIf (tVal (eOp2 (opIsN false) (eVar 7) (eCon .non)))
              (sCons (sRet (eCon (.bool false)))
              sNil)
              sNil)
              (sCons (sAsg (.nm 8) (eOp2 opIx (eOp2 opIx (eVar 0) (eOp2 opIx (eVar 2) (eCon (.int 0)))) (eCon (.int 0))))
              (sCons (sAsg (.nm 9) (eOp2 opIx (eOp2 opIx (eVar 0) (eOp2 opIx (eVar 2) (eOp1 opNeg (eCon (.int 1))))) (eCon (.int 1))))
              (sCons (sRet (eOr (eAnd (eOp2 opEq (eVar 8) (eVar 4)) (eAnd (eOp2 opEq (eVar 9) (eVar 5)) (eOp2 opLe (eVar 7) (eVar 6)))) (eAnd (eOp2 opEq (eVar 8) (eVar 9)) (eOp2 opLt (eVar 7) (eCon (.int 0))))))
              sNil)))) [some (.d (encFs fs)), some (.d (encF (i, j, c))), some (.d (encR (p :: ps))), x3, some (.int i), some (.int j), some (.int c), some o, none, none] h)) := fun o eo => by
          have eu : ∀ M, opEqB false (.d (encR (p :: ps))) (.d (.tuple [])) M = some (.bool false, M) := fun M => eq_unit _ _ M
          simp only [m_proves, fn, b_proves, List.length_cons, List.length_nil, if_true, List.map_cons, List.map_nil, List.replicate, List.cons_append, List.nil_append, Nat.reduceAdd, Nat.reduceSub]
          simp [isI, tyW_R, e, setAll, mkTup, allD, eu, eo]
        have ix0 : opIx (.d (encR (p :: ps))) (.d (.int 0)) h = some (.int (p : Int), h) := ix_R (n := 0) rfl
        rcases goes_on_ok (h := h) hl' hr (u := u) (fun p' w e1 e2 => by cases e1; rw [hf] at e2; cases e2; rfl) with ⟨v, s, e2, k⟩ | ⟨e2, k⟩
        · refine ⟨decide ((u = i ∧ v = j ∧ s ≤ c) ∨ (u = v ∧ s < 0)), ?_, tell _ ?_⟩
          · obtain ⟨row', q, hq⟩ : ∃ row' q, p :: ps = row' ++ [q] := ⟨(p :: ps).dropLast, (p :: ps).getLast (by simp), (List.dropLast_concat_getLast (by simp)).symm⟩
            have k9 := k
            rw [hq] at k9
            obtain ⟨w, d', hf'⟩ := k9.last
            have ixl : opIx (.d (encR (p :: ps))) (.d (.int (-1))) h = some (.int (q : Int), h) := by rw [hq]; exact ix_R_last
            rw [st _ e2]
            simp [opIsN, isN, ix0, ixl, ix_Fs hf, ix_Fs hf']
            generalize hg1 : (u == i) = g1
            generalize hg2 : (v == j) = g2
            generalize hg3 : (u == v) = g3
            have q1 : (u = i) = (g1 = true) := by rw [← hg1]; simp
            have q2 : (v = j) = (g2 = true) := by rw [← hg2]; simp
            have q3 : (u = v) = (g3 = true) := by rw [← hg3]; simp
            simp only [q1, q2, q3]
            cases g1 <;> cases g2 <;> cases g3 <;> by_cases h4 : s ≤ c <;> simp [h4]
          · simp only [decide_eq_true_eq]
            constructor
            · rintro (⟨rfl, rfl, hs⟩ | ⟨rfl, hs⟩)
              · exact .inl ⟨s, k, hs⟩
              · exact .inr ⟨by simp, u, s, k, hs⟩
            · rintro (⟨s', k', hs⟩ | ⟨_, u2, s', k', hs⟩)
              · obtain ⟨w, d', hf'⟩ := k'.first
                rw [hf] at hf'; cases hf'
                obtain ⟨rfl, rfl⟩ := k.det k'
                exact .inl ⟨rfl, rfl, hs⟩
              · obtain ⟨w, d', hf'⟩ := k'.first
                rw [hf] at hf'; cases hf'
                obtain ⟨rfl, rfl⟩ := k.det k'
                exact .inr ⟨rfl, hs⟩
        · refine ⟨false, ?_, tell _ ⟨fun e => (Bool.false_ne_true e).elim, ?_⟩⟩
          · rw [st _ e2]
            simp [opIsN, isN]
          · rintro (⟨s', k', hs⟩ | ⟨_, u2, s', k', hs⟩)
            · obtain ⟨w, d', hf'⟩ := k'.first
              rw [hf] at hf'; cases hf'
              exact (k _ _ k').elim
            · obtain ⟨w, d', hf'⟩ := k'.first
              rw [hf] at hf'; cases hf'
              exact (k _ _ k').elim
    · refine ⟨false, ?_, tells_not (fun row e hp => hnot fun x hx => ?_)⟩
      · simp [m_proves, fn, b_proves, isI, tyW, List.replicate]
        rw [show (Src.tp (xs.map W.d)).ok = (Src.tp (xs.map W.d)).ok from rfl, e]; simp
      · simp only [W.d.injEq, encR, PyData.tuple.injEq] at e
        subst e
        obtain ⟨p, hp', rfl⟩ := List.mem_map.mp hx
        exact ⟨p, rfl, hp p hp'⟩
/-- what is shown holds -/
theorem Prv.sat {fs : List Fact} {i j c : Int} {row : List Nat} (h : Prv fs i j c row) {x : Int → Int} (hx : ∀ f ∈ fs, Sat x f) : Sat x (i, j, c) := by
  rcases h with ⟨s, k, hs⟩ | ⟨_, u, s, k, hs⟩
  · have := k.sat hx
    unfold Sat; simp only; omega
  · have := k.sat hx
    omega
end Sp
end

section
/-! SpF6: fulfil. -/
namespace Sp
open Mi Sem BF
open PySem (PyData Str)
def encV (vs : List Int) : PyData := .tuple (vs.map .int)
/-- the number of a name -/
def val (vs : List Int) (u : Int) : Int := vs.getD u.toNat 0
def Fits (m : Nat) (f : Fact) : Prop := (0 ≤ f.1 ∧ f.1 < m) ∧ 0 ≤ f.2.1 ∧ f.2.1 < m
theorem ix_V {vs : List Int} {u : Int} {M : Hh} (h : 0 ≤ u ∧ u < vs.length) : opIx (.d (encV vs)) (.d (.int u)) M = some (.int (val vs u), M) := by
  have e : u = ((u.toNat : Nat) : Int) := by omega
  have := opIx_tup (xs := vs.map PyData.int) (n := u.toNat) (x := .int (val vs u)) (M := M) (by
    have : u.toNat < vs.length := by omega
    simp [this, val])
  rw [← e] at this
  exact this
theorem fulfil_ok {vs : List Int} {fs : List Fact} {h : Hh} (hr : ∀ f ∈ fs, Fits vs.length f) (hl : fs.length ≤ 16777216) : ∃ b, m_fulfil [.d (encV vs), .d (encFs fs)] h = .ok (.bool b) h ∧ (b = true ↔ ∀ f ∈ fs, Sat (val vs) f) := by
  let p : Fact → Bool := fun f => decide (val vs f.2.1 + f.2.2 < val vs f.1)
  have e := eComp_pure (i := iSeq (eVar 1)) (vs := [2]) (g := .nm 2) (t := tVal (eOp2 opGt (eOp2 opIx (eVar 0) (eOp2 opIx (eVar 2) (eCon (.int 0)))) (eOp2 opAdd (eOp2 opIx (eVar 0) (eOp2 opIx (eVar 2) (eCon (.int 1)))) (eOp2 opIx (eVar 2) (eCon (.int 2))))))
    (e := eVar 2) (L := [some (.d (encV vs)), some (.d (encFs fs)), none]) (h0 := h) (h := h) (enc := fun f => W.d (encF f)) (s := .tp (fs.map fun f => W.d (encF f))) p (fun f => W.d (encF f)) fs (by simp) rfl (fun _ => trivial) (by simpa [sizeMax] using hl)
    (fun f hf => ⟨[some (.d (encV vs)), some (.d (encFs fs)), some (.d (encF f))], rfl, fun acc => by
      obtain ⟨h1, h2⟩ := hr f hf
      exact ⟨by simp [ix_V h1, ix_V h2, p], fun _ => rfl⟩⟩)
  refine ⟨(fs.filter p).length == 0, ?_, ?_⟩
  · have eg : eGc (eOpN bLen (aCons (eComp (iSeq (eVar 1)) [2] (.nm 2) (tVal (eOp2 opGt (eOp2 opIx (eVar 0) (eOp2 opIx (eVar 2) (eCon (.int 0)))) (eOp2 opAdd (eOp2 opIx (eVar 0) (eOp2 opIx (eVar 2) (eCon (.int 1)))) (eOp2 opIx (eVar 2) (eCon (.int 2)))))) (eVar 2)) aNil))
        [some (.d (encV vs)), some (.d (encFs fs)), none] h = .ok (.int (fs.filter p).length) h := by
      refine eGc_ok (h' := h ++ [.lst ((fs.filter p).map fun f => W.d (encF f))]) ?_ (by simp) List.take_left
      rw [eOpN_eq, aCons_eq, e]
      simp [bLen]
    simp only [m_fulfil, fn, b_fulfil, List.length_cons, List.length_nil, if_true, List.map_cons, List.map_nil, List.replicate, List.cons_append, List.nil_append, Nat.reduceAdd, Nat.reduceSub, sCons_eq, sRet_eq, eOp2_eq, eg]
    simp
    generalize (fs.filter p).length = n
    rw [Bool.eq_iff_iff, beq_iff_eq, beq_iff_eq]; omega
  · rw [beq_iff_eq, List.length_eq_zero_iff, List.filter_eq_nil_iff]
    unfold Sat
    constructor
    · intro q f hf
      have := q f hf
      simp [p] at this
      exact this
    · intro q f hf
      have := q f hf
      simp [p]
      exact this
end Sp
end

section
/-! SpD: what each law draws from its script. -/
namespace Sp
open Mi Sem BF
open PySem (PyData Str)
def encL (ns : List Int) : PyData := .list (ns.map .int)
theorem cell_ok {ns : List Int} {k : Nat} {h : Hh} : ∃ c, m__law_cell [.d (encL ns), .d (.int (k : Int))] h = .ok (.int c) h := by
  have e1 : bLen [.d (encL ns)] h = some (.int ns.length, h) := by simp [bLen, encL]
  by_cases hk : k < ns.length
  · refine ⟨ns[k], ?_⟩
    have e2 : opIx (.d (encL ns)) (.d (.int (k : Int))) h = some (.int ns[k], h) := opIx_rol (by simp [hk])
    simp [m__law_cell, fn, b__law_cell, e1, e2, hk]
  · refine ⟨0, ?_⟩
    simp [m__law_cell, fn, b__law_cell, e1, hk]
theorem setlast {h : Hh} {x y : O} : (h ++ [x]).set h.length y = h ++ [y] := by rw [app_set0]; rfl
def sD (ns : List Int) (h : Hh) (x4 x5 x6 x7 : Option W) : Loc := [some (.d (encL ns)), some (.int 0), some (.int 63), some (.ref h.length), x4, x5, x6, x7]
def hD (h : Hh) (ds : List Int) : Hh := h ++ [.lst (ds.map W.int)]
theorem app_hD {h : Hh} {ds : List Int} {x : Int} (hl : ds.length < 16777216) : mAppend [.ref h.length, .d (.int x)] (hD h ds) = some (.non, hD h (ds ++ [x])) := by
  have hg : (hD h ds)[h.length]? = some (.lst (ds.map W.int)) := by simp [hD]
  rw [app_int hg hl]; simp [hD]
theorem isLst_hD {h : Hh} {ds : List Int} : isLst (hD h ds) (.ref h.length) = true := by simp [isLst, hD]
theorem fdiv_ok {i j : Int} {M : Hh} (hj : 0 < j) (hl : j < 4294967296) : opFloorDiv (.d (.int i)) (.d (.int j)) M = some (.int (i / j), M) := by
  have : j.natAbs.log2 < 9000 := by
    have h1 : j.natAbs.log2 < 32 := by
      rw [Nat.log2_lt (by omega)]
      have : (2 : Nat) ^ 32 = 4294967296 := rfl
      omega
    omega
  simp [opFloorDiv, hj, this]
theorem mod_ok {i j : Int} {M : Hh} (hj : 0 < j) : opMod (.d (.int i)) (.d (.int j)) M = some (.int (i % j), M) := by simp [opMod, hj]
@[simp] theorem bInt_ok (i : Int) (M : Hh) : bInt [.d (.int i)] M = some (.int i, M) := (rfl)
theorem mul_ok {i j : Int} {M : Hh} (hj : -4294967296 < j ∧ j < 4294967296) : opMul (.d (.int i)) (.d (.int j)) M = some (.int (i * j), M) := by
  unfold opMul
  simp only
  rw [if_pos (.inr (by omega))]
theorem mul_ok' {i j : Int} {M : Hh} (hj : -4294967296 < i ∧ i < 4294967296) : opMul (.d (.int i)) (.d (.int j)) M = some (.int (i * j), M) := by
  unfold opMul
  simp only
  rw [if_pos (.inl (by omega))]
theorem l1_ok {ns ds : List Int} {h : Hh} {x4 x6 x7 : Option W} {c : Int} (hl : ds.length < 16000000) : ∃ ds' c' y6, forL (Src.rg 0 60).ok (.nm 6) l1__law_digits (rgItems 0 60) (sD ns h x4 (some (.int c)) x6 x7) (hD h ds) = .nx (sD ns h x4 (some (.int c')) y6 x7) (hD h ds') ∧ ds'.length ≤ ds.length + 60 := by
  obtain ⟨L2, h2, e, ds', c', y6, rfl, rfl, hle⟩ := forL_num (ok := (Src.rg 0 60).ok) (g := .nm 6) (body := l1__law_digits) (n := 60)
    (fun n L h' => ∃ ds' c' , ∃ y6, L = sD ns h x4 (some (.int c')) y6 x7 ∧ h' = hD h ds' ∧ ds'.length ≤ ds.length + n) (fun _ _ _ _ => trivial)
    (fun n L h' hn ⟨ds', c', y6, e1, e2, hle⟩ => by
      subst e1 e2
      refine ⟨sD ns h x4 (some (.int c')) (some (.int (n : Int))) x7, rfl, ?_⟩
      by_cases hc : 0 < c'
      · exact ⟨sD ns h x4 (some (.int (c' / 1000))) (some (.int (n : Int))) x7, hD h (ds' ++ [c' % 1000]), .inl (by
          simp [l1__law_digits, sD, hc, isLst_hD, mod_ok (show (0 : Int) < 1000 by omega), fdiv_ok (show (0 : Int) < 1000 by omega) (by omega), app_hD (show ds'.length < 16777216 by omega)]), _, _, _, rfl, rfl, by simp; omega⟩
      · exact ⟨sD ns h x4 (some (.int c')) (some (.int (n : Int))) x7, hD h ds', .inl (by simp [l1__law_digits, sD, hc]), _, _, _, rfl, rfl, by omega⟩)
    (L := sD ns h x4 (some (.int c)) x6 x7) (h := hD h ds) ⟨_, _, _, rfl, rfl, by omega⟩
  exact ⟨ds', c', y6, e, hle⟩
theorem l2_ok {ns ds : List Int} {h : Hh} {x4 x5 x6 : Option W} {c : Int} (hl : ds.length < 16000000) : ∃ ds' c' y6, forL (Src.rg 0 12).ok (.nm 6) l2__law_digits (rgItems 0 12) (sD ns h x4 x5 x6 (some (.int c))) (hD h ds) = .nx (sD ns h x4 x5 y6 (some (.int c'))) (hD h ds') ∧ ds'.length ≤ ds.length + 12 := by
  obtain ⟨L2, h2, e, ds', c', y6, rfl, rfl, hle⟩ := forL_num (ok := (Src.rg 0 12).ok) (g := .nm 6) (body := l2__law_digits) (n := 12)
    (fun n L h' => ∃ ds' c' , ∃ y6, L = sD ns h x4 x5 y6 (some (.int c')) ∧ h' = hD h ds' ∧ ds'.length ≤ ds.length + n) (fun _ _ _ _ => trivial)
    (fun n L h' hn ⟨ds', c', y6, e1, e2, hle⟩ => by
      subst e1 e2
      refine ⟨sD ns h x4 x5 (some (.int (n : Int))) (some (.int c')), rfl, ?_⟩
      exact ⟨sD ns h x4 x5 (some (.int (n : Int))) (some (.int ((c' * 16807 + 7 * (n : Int) + 1) % 2147483647))), hD h (ds' ++ [((c' * 16807 + 7 * (n : Int) + 1) % 2147483647) / 997 % 1000]), .inl (by
          simp [l2__law_digits, sD, isLst_hD, mod_ok (show (0 : Int) < 1000 by omega), mod_ok (show (0 : Int) < 2147483647 by omega), fdiv_ok (show (0 : Int) < 997 by omega) (by omega), mul_ok (show -4294967296 < (16807 : Int) ∧ (16807 : Int) < 4294967296 by omega), mul_ok' (show -4294967296 < (7 : Int) ∧ (7 : Int) < 4294967296 by omega), app_hD (show ds'.length < 16777216 by omega)]), _, _, _, rfl, rfl, by simp; omega⟩)
    (L := sD ns h x4 x5 x6 (some (.int c))) (h := hD h ds) ⟨_, _, _, rfl, rfl, by omega⟩
  exact ⟨ds', c', y6, e, hle⟩
theorem pow_ok {M : Hh} : opPow (.d (.int 10)) (.d (.int 18)) M = some (.int 1000000000000000000, M) := by
  unfold opPow
  simp
theorem digits_ok {ns : List Int} {h : Hh} : ∃ ds : List Int, m__law_digits [.d (encL ns), .d (.int 0), .d (.int 63)] h = .ok (.ref h.length) (hD h ds) := by
  obtain ⟨L2, h2, e, ds, x4, x5, x6, x7, rfl, rfl, hle⟩ := forL_num (ok := (Src.rg 0 63).ok) (g := .nm 4) (body := l0__law_digits) (n := 63)
    (fun n L h' => ∃ ds, ∃ x4 x5 x6 x7, L = sD ns h x4 x5 x6 x7 ∧ h' = hD h ds ∧ ds.length ≤ 72 * n) (fun _ _ _ _ => trivial)
    (fun n L h' hn ⟨ds, x4, x5, x6, x7, e1, e2, hle⟩ => by
      subst e1 e2
      refine ⟨sD ns h (some (.int (n : Int))) x5 x6 x7, rfl, ?_⟩
      obtain ⟨c, ec⟩ := cell_ok (ns := ns) (k := n) (h := hD h ds)
      have go : ∀ c : Int, ∃ L2 h2, (sCons (sIf (tVal (eOp2 opGe (eVar 5) (eOp2 opPow (eCon (.int 10)) (eCon (.int 18)))))
          (sCons (sFor (iRange1 (eCon (.int 60))) (.nm 6) l1__law_digits) sNil)
          (sCons (sAsg (.nm 7) (eOp2 opMod (eOpN bInt (aCons (eOp2 opAdd (eOp2 opAdd (eOp2 opMul (eVar 5) (eCon (.int 48271))) (eOp2 opMul (eVar 4) (eCon (.int 69621)))) (eCon (.int 11))) aNil)) (eCon (.int 2147483647))))
          (sCons (sFor (iRange1 (eCon (.int 12))) (.nm 6) l2__law_digits) sNil))) sNil) (sD ns h (some (.int (n : Int))) (some (.int c)) x6 x7) (hD h ds) = .nx L2 h2 ∧ ∃ ds, ∃ x4 x5 x6 x7, L2 = sD ns h x4 x5 x6 x7 ∧ h2 = hD h ds ∧ ds.length ≤ 72 * (n + 1) := fun c => by
        by_cases hc : 1000000000000000000 ≤ c
        · obtain ⟨ds', c', y6, e, hl⟩ := l1_ok (ns := ns) (ds := ds) (h := h) (x4 := some (.int (n : Int))) (x6 := x6) (x7 := x7) (c := c) (by omega)
          refine ⟨sD ns h (some (.int (n : Int))) (some (.int c')) y6 x7, hD h ds', ?_, ds', _, _, _, _, rfl, rfl, by omega⟩
          have : iRange1 (eCon (.int 60)) (sD ns h (some (.int (n : Int))) (some (.int c)) x6 x7) (hD h ds) = .ok (.rg 0 60) (hD h ds) := by simp
          simp [pow_ok, sD, hc] at e ⊢
          rw [e]; simp
        · obtain ⟨ds', c', y6, e, hl⟩ := l2_ok (ns := ns) (ds := ds) (h := h) (x4 := some (.int (n : Int))) (x5 := some (.int c)) (x6 := x6) (c := (c * 48271 + (n : Int) * 69621 + 11) % 2147483647) (by omega)
          refine ⟨sD ns h (some (.int (n : Int))) (some (.int c)) y6 (some (.int c')), hD h ds', ?_, ds', _, _, _, _, rfl, rfl, by omega⟩
          simp [pow_ok, sD, hc, mod_ok (show (0 : Int) < 2147483647 by omega), mul_ok (show -4294967296 < (48271 : Int) ∧ (48271 : Int) < 4294967296 by omega), mul_ok (show -4294967296 < (69621 : Int) ∧ (69621 : Int) < 4294967296 by omega)] at e ⊢
          rw [e]; simp
      by_cases hc : c < 0
      · obtain ⟨L2, h2, e, q⟩ := go (1 - 2 * c)
        refine ⟨L2, h2, .inl ?_, q⟩
        rw [← e]
        simp only [l0__law_digits, sCons_eq, sAsg_eq, eCall_eq, aCons_eq, aNil_eq, sD, eVar_eq, List.getElem?_cons_succ, List.getElem?_cons_zero, R.bind_ok, ec, R.then_ok, put_nm, List.set_cons_succ, List.set_cons_zero, Out.seq_nx, sIf_eq, tVal_eq, eOp2_eq, eCon_eq, cmp_int, R.of_some, asBool_bool, hc, decide_true, if_true, mul_ok' (show -4294967296 < (2 : Int) ∧ (2 : Int) < 4294967296 by omega), sub_int, sNil_eq]
      · obtain ⟨L2, h2, e, q⟩ := go c
        refine ⟨L2, h2, .inl ?_, q⟩
        rw [← e]
        simp only [l0__law_digits, sCons_eq, sAsg_eq, eCall_eq, aCons_eq, aNil_eq, sD, eVar_eq, List.getElem?_cons_succ, List.getElem?_cons_zero, R.bind_ok, ec, R.then_ok, put_nm, List.set_cons_succ, List.set_cons_zero, Out.seq_nx, sIf_eq, tVal_eq, eOp2_eq, eCon_eq, cmp_int, R.of_some, asBool_bool, hc, decide_false, Bool.false_eq_true, if_false, sNil_eq])
    (L := sD ns h none none none none) (h := hD h []) ⟨[], none, none, none, none, rfl, rfl, by simp⟩
  refine ⟨ds, ?_⟩
  have e0 : iRange2 (eVar 1) (eVar 2) (sD ns h none none none none) (hD h []) = .ok (.rg 0 63) (hD h []) := by simp [sD]
  simp [m__law_digits, fn, b__law_digits, List.replicate]
  simp [sD, hD] at e
  rw [e]
  simp [gc, hD]
/-! ### the box -/
def Bx (ds : List Int) (at' : Nat) : Hh := [.lst (ds.map W.int), .lst [.ref 0, .int at']]
def dr (ds : List Int) (at' : Nat) (many : Int) : Int := ds.getD at' 0 % many
theorem dr_range {ds : List Int} {k : Nat} {many : Int} (h : 0 < many) : 0 ≤ dr ds k many ∧ dr ds k many < many := ⟨Int.emod_nonneg _ (by omega), Int.emod_lt_of_pos _ h⟩
theorem draw_ok {ds : List Int} {k : Nat} {many : Int} {T : Hh} (h : 0 < many) : m__law_draw [.ref 1, .d (.int many)] (Bx ds k ++ T) = .ok (.int (dr ds k many)) (Bx ds (k + 1) ++ T) := by
  have e0 : opIx (.ref 1) (.d (.int 1)) (Bx ds k ++ T) = some (.int (k : Int), Bx ds k ++ T) := opIx_lst (n := 1) (ws := [.ref 0, .int k]) rfl rfl
  have e1 : setIx (.ref 1) (.d (.int 1)) (W.int ((k : Int) + 1)) (Bx ds k ++ T) = some (Bx ds (k + 1) ++ T) := by
    simp [setIx, Bx, ixN]
  have e2 : opIx (.ref 1) (.d (.int 0)) (Bx ds (k + 1) ++ T) = some (.ref 0, Bx ds (k + 1) ++ T) := opIx_lst (n := 0) (ws := [.ref 0, .int (k + 1 : Nat)]) rfl rfl
  have e3 : bLen [.ref 0] (Bx ds (k + 1) ++ T) = some (.int ds.length, Bx ds (k + 1) ++ T) := by simp [bLen, Bx]
  have g : ∀ w, gc (Bx ds k ++ T) w (Bx ds (k + 1) ++ T) = Bx ds (k + 1) ++ T := fun w => gc_len (by simp [Bx])
  by_cases hk : k < ds.length
  · have e4 : opIx (.ref 0) (.d (.int (k : Int))) (Bx ds (k + 1) ++ T) = some (.int ds[k], Bx ds (k + 1) ++ T) := opIx_lst (n := k) (ws := ds.map W.int) rfl (by simp [hk])
    simp [m__law_draw, fn, b__law_draw, e0, e1, e2, e3, hk, e4, mod_ok h, g, dr]
  · simp [m__law_draw, fn, b__law_draw, e0, e1, e2, e3, hk, g, dr]
/-- a comprehension over range(n) that draws once for each element -/
theorem eComp_draw {i : IM} {vs : List Nat} {g : Tg} {e : EM} {L : Loc} {h0 : Hh} {ds : List Int} {k n : Nat} {T : Hh} (f : Nat → W) (hi : i L h0 = .ok (.rg 0 n) (Bx ds k ++ T)) (hn : n ≤ 16777216)
    (hx : ∀ q, q < n → ∃ L1, g.put (.int (q : Int)) (wipeL L vs) = some L1 ∧ ∀ acc : List W, e L1 (Bx ds (k + q) ++ (T ++ [.lst acc])) = .ok (f q) (Bx ds (k + (q + 1)) ++ (T ++ [.lst acc]))) :
    eComp i vs g tYes e L h0 = .ok (.ref (T.length + 2)) (Bx ds (k + n) ++ (T ++ [.lst ((List.range n).map f)])) := by
  have bl : ∀ k, (Bx ds k).length = 2 := fun _ => rfl
  have hD : ∀ k acc, (Bx ds k ++ (T ++ [O.lst acc]))[T.length + 2]? = some (.lst acc) := fun k acc => by
    rw [List.getElem?_append_right (by rw [bl]; omega), bl]; simp
  have hS : ∀ k acc x, (Bx ds k ++ (T ++ [O.lst acc])).set (T.length + 2) (.lst (acc ++ [x])) = Bx ds k ++ (T ++ [O.lst (acc ++ [x])]) := fun k acc x => by
    rw [List.set_append_right _ _ (by rw [bl]; omega), bl]; simp
  have go : ∀ (m q : Nat) (acc : List W), q + m = n → acc.length = q → compL (Src.rg 0 n).ok vs g (fun L h => noEx (tYes L h)) (fun L h => noEx (e L h)) (T.length + 2) L ((List.range' q m).map fun (i : Nat) => W.int (i : Int)) (Bx ds (k + q) ++ (T ++ [.lst acc])) =
      .ok (.ref (T.length + 2)) (Bx ds (k + n) ++ (T ++ [.lst (acc ++ (List.range' q m).map f)])) := by
    intro m
    induction m with
    | zero =>
      intro q acc e _
      have : q = n := by omega
      subst this
      simp [compL]
    | succ m ih =>
      intro q acc e1 hl
      obtain ⟨L1, hp, he⟩ := hx q (by omega)
      rw [List.range'_succ, List.map_cons, compL, if_pos (show (Src.rg 0 n).ok _ from trivial), hp]
      simp only [tYes_eq, noEx_ok, R.bind_ok, if_true, he acc, hD, hS]
      rw [if_pos (by simp only [sizeMax]; omega)]
      have ih' := ih (q + 1) (acc ++ [f q]) (by omega) (by simp [hl])
      simp only [tYes_eq, noEx_ok] at ih'
      rw [ih']
      simp
  have e0 : (Src.rg 0 n).items = (List.range' 0 n).map fun (i : Nat) => W.int (i : Int) := by
    simp [Src.items, rgItems, List.range_eq_range']
  have l0 : (Bx ds k ++ T).length = T.length + 2 := by rw [List.length_append, bl]; omega
  rw [eComp_eq, hi, R.bind_ok, e0, l0, List.append_assoc]
  have := go n 0 [] (by omega) rfl
  rw [show k + 0 = k from rfl] at this
  rw [this, List.nil_append, List.range_eq_range']
open Classical in
theorem eGc_no {m : EM} {L : Loc} {h h' : Hh} {w : W} (e : m L h = .ok w h') (hp : h'.take h.length ≠ h) : eGc m L h = .ok w h' := by
  unfold eGc; rw [e]; simp [hp]
theorem Bx_ne {ds : List Int} {k k' : Nat} {T T' : Hh} (h : k ≠ k') : (Bx ds k' ++ T').take (Bx ds k ++ T).length ≠ Bx ds k ++ T := fun e => by
  have := congrArg (fun l : Hh => l[1]?) e
  have l2 : (Bx ds k ++ T).length = T.length + 2 := by simp [Bx]
  rw [l2] at this
  simp [Bx, List.getElem?_take] at this
  omega
theorem gcS_len {M M' : Hh} {L : Loc} (h : M'.length = M.length) : gcS M L M' = M' := by
  unfold gcS; split
  · rw [← h, List.take_length]
  · rfl
theorem gcS_bx {ds : List Int} {k k' : Nat} {L : Loc} {T : Hh} (h : locUnd 2 L = true) : gcS (Bx ds k) L (Bx ds k' ++ T) = Bx ds k' := by
  have e2 : (Bx ds k' ++ T).take (Bx ds k).length = Bx ds k' := by simp [Bx]
  unfold gcS
  rw [if_pos, e2]
  refine ⟨h, .inr ⟨?_, by simp [Bx]⟩⟩
  rw [e2]
  have : (Bx ds k).length = 2 := rfl
  rw [this]
  simp [Bx, O.und, List.all_eq_true]
/-- the box at the beginning -/
theorem box_ok {ns : List Int} {L : Loc} {i : Nat} (hL : L[i]? = some (some (.d (encL ns)))) : ∃ ds, eLst (aCons (eCall m__law_digits (aCons (eVar i) (aCons (eCon (.int 0)) (aCons (eCon (.int 63)) aNil)))) (aCons (eCon (.int 0)) aNil)) L [] = .ok (.ref 1) (Bx ds 0) := by
  obtain ⟨ds, e⟩ := digits_ok (ns := ns) (h := [])
  refine ⟨ds, ?_⟩
  simp [hL, e, sizeMax, hD, Bx]
end Sp
end

section
/-! BF3: sums without last facts; a fact more; small numbers. -/
namespace BF
/-- the sums don't ask for the last facts -/
theorem passTo_indep (fs : List Fact) (l : Mp) (q q' : Pi) : ∀ n, (passTo fs l q n).1 = (passTo fs l q' n).1 ∧ (passTo fs l q n).2.2 = (passTo fs l q' n).2.2
  | 0 => ⟨rfl, rfl⟩
  | n + 1 => by
    obtain ⟨a, b⟩ := passTo_indep fs l q q' n
    rw [passTo_succ, passTo_succ]
    unfold step
    rw [a]
    cases fs[n]? with
    | none => exact ⟨a, b⟩
    | some f =>
      obtain ⟨i, j, c⟩ := f
      simp only
      cases (passTo fs l q' n).1 j with
      | none => exact ⟨a, b⟩
      | some d =>
        simp only
        cases (passTo fs l q' n).1 i with
        | none => exact ⟨rfl, rfl⟩
        | some e =>
          simp only
          split
          · exact ⟨rfl, rfl⟩
          · exact ⟨a, b⟩
theorem pass_indep (fs : List Fact) (l : Mp) (q q' : Pi) : (pass fs l q).1 = (pass fs l q').1 ∧ (pass fs l q).2.2 = (pass fs l q').2.2 := passTo_indep fs l q q' _
/-- rounds of sums alone -/
def sums (fs : List Fact) : Nat → Mp → Mp
  | 0, l => l
  | n + 1, l => (pass fs (sums fs n l) fun _ => none).1
theorem sums_rounds (fs : List Fact) (l : Mp) (q : Pi) : ∀ n, sums fs n l = (rounds fs n (l, q)).1
  | 0 => rfl
  | n + 1 => by
    show (pass fs (sums fs n l) fun _ => none).1 = (pass fs (rounds fs n (l, q)).1 (rounds fs n (l, q)).2).1
    rw [sums_rounds fs l q n]
    exact (pass_indep _ _ _ _).1
/-! ### simple walks -/
theorem simple {fs : List Fact} (hF : Feas fs) : ∀ (n : Nat) {u v s : Int} {ps : List Nat}, ps.length ≤ n → Walk fs u v ps s → ∃ ps' ns' s', WalkN fs u v ps' ns' s' ∧ s' ≤ s ∧ (v :: ns').Nodup
  | 0, u, v, s, ps, hl, h => by
    cases h with
    | nil => exact ⟨[], [], 0, .nil _, Int.le_refl _, by simp⟩
    | cons _ _ => simp at hl
  | n + 1, u, v, s, ps, hl, h => by
    obtain ⟨ns, hn⟩ := h.named
    by_cases hv : v ∈ ns
    · obtain ⟨a, b, rfl⟩ := List.append_of_mem hv
      obtain ⟨ps1, s1, ps2, s2, h1, h2, rfl, rfl⟩ := hn.split
      have hc := hF.cycle h2.walk
      have l2 : ps2.length = b.length + 1 := by rw [← h2.len]; simp
      obtain ⟨ps', ns', s', k1, k2, k3⟩ := simple hF n (by simp at hl ⊢; omega) h1.walk
      exact ⟨ps', ns', s', k1, by omega, k3⟩
    · by_cases nd : ns.Nodup
      · exact ⟨ps, ns, s, hn, Int.le_refl _, List.nodup_cons.mpr ⟨hv, nd⟩⟩
      · obtain ⟨a, y, b, c, e⟩ := twice nd
        subst e
        obtain ⟨ps1, s1, ps2, s2, h1, h2, rfl, rfl⟩ := WalkN.split (a := a) (b := b ++ y :: c) (by simpa using hn)
        obtain ⟨ps3, s3, ps4, s4, h3, h4, rfl, rfl⟩ := WalkN.split (a := y :: b) (b := c) h2
        have hc := hF.cycle h3.walk
        have l3 : ps3.length = b.length + 1 := by rw [← h3.len]; simp
        obtain ⟨ps', ns', s', k1, k2, k3⟩ := simple hF n (by simp at hl ⊢; omega) (h1.walk.append h4.walk)
        exact ⟨ps', ns', s', k1, by omega, k3⟩
/-- facts that are hardly below 0, but those of j -/
def Low (j : Int) (gs : List Fact) : Prop := ∀ f ∈ gs, -2 ≤ f.2.2 ∨ (f.1 = j ∧ -4 ≤ f.2.2)
theorem low_sum {gs : List Fact} {j : Int} (hg : Low j gs) {u v s : Int} {ps : List Nat} {ns : List Int} (h : WalkN gs u v ps ns s) : ns.Nodup → (-2 * (ps.length : Int) - 2 ≤ s ∧ (j ∉ ns → -2 * (ps.length : Int) ≤ s)) := by
  induction h with
  | nil => intro _; exact ⟨by simp, fun _ => by simp⟩
  | @cons u w v c s p ps ns hf _ ih =>
    intro hn
    obtain ⟨n1, n2⟩ := List.nodup_cons.mp hn
    obtain ⟨i1, i2⟩ := ih n2
    have hl := hg _ (List.mem_of_getElem? hf)
    simp only at hl
    constructor
    · by_cases hj : j ∈ ns
      · have : -2 ≤ c := by
          rcases hl with hl | ⟨e, hl⟩
          · exact hl
          · exact (n1 (e ▸ hj)).elim
        simp only [List.length_cons, Int.natCast_add]; omega
      · have := i2 hj
        simp only [List.length_cons, Int.natCast_add]; omega
    · intro hj
      have hj' : j ∉ ns := fun h => hj (List.mem_cons_of_mem _ h)
      have := i2 hj'
      have : -2 ≤ c := by
        rcases hl with hl | ⟨e, hl⟩
        · exact hl
        · exact (hj (by rw [e]; exact List.mem_cons_self)).elim
      simp only [List.length_cons, Int.natCast_add]; omega
/-- small facts of few names have small numbers -/
theorem small {gs : List Fact} {j : Int} (hg : Low j gs) (hF : Feas gs) {U : List Int} (hU : Names gs U) (hl : U.length ≤ 4) (h0 : (0 : Int) ∈ U) :
    ∃ x : Int → Int, (∀ f ∈ gs, Sat x f) ∧ x 0 = 0 ∧ ∀ u ∈ U, -9 ≤ x u ∧ x u ≤ 9 := by
  let l0 : Mp := fun u => if u ∈ U then some 0 else none
  have st : (pass gs (rounds gs U.length (l0, fun _ => none)).1 (rounds gs U.length (l0, fun _ => none)).2).2.2 = false := rounds_stop hU hF (by omega)
  generalize hr : rounds gs U.length (l0, fun _ => none) = r at st
  have all : ∀ u ∈ U, ∃ a, r.1 u = some a ∧ a ≤ 0 := fun u hu => by
    obtain ⟨a, ha, e⟩ := rounds_le gs (l0, fun _ => none) U.length u 0 (by simp [l0, hu])
    exact ⟨a, by rw [← hr]; exact ha, e⟩
  have low : ∀ u ∈ U, ∀ a, r.1 u = some a → -8 ≤ a := fun u hu a ha => by
    have w0 : InvW gs l0 l0 := fun u a h => ⟨u, [], 0, a, .nil _, h, by omega⟩
    have w1 : InvW gs l0 (rounds gs U.length (l0, fun _ => none)).1 := rounds_inv (s := (l0, fun _ => none)) (fun x _ => InvW gs l0 x) (fun x _ p i j c b h1 h2 _ h => invW_upd h1 h2 h) w0 _
    rw [hr] at w1
    obtain ⟨v, ps, s, b, k1, k2, rfl⟩ := w1 u a ha
    have hb : b = 0 ∧ v ∈ U := by
      by_cases hv : v ∈ U
      · simp [l0, hv] at k2; exact ⟨k2.symm, hv⟩
      · simp [l0, hv] at k2
    obtain ⟨rfl, hv⟩ := hb
    obtain ⟨ps', ns', s', q1, q2, q3⟩ := simple hF _ (Nat.le_refl _) k1
    obtain ⟨b', hb', e'⟩ := all v hv
    obtain ⟨a', ha', e''⟩ : ∃ a', r.1 u = some a' ∧ a' ≤ s' + b' := by
      have go : ∀ {u v s : Int} {ps : List Nat}, Walk gs u v ps s → ∀ {b : Int}, r.1 v = some b → ∃ a, r.1 u = some a ∧ a ≤ s + b := by
        intro u v s ps k
        induction k with
        | nil => intro b hb; exact ⟨b, hb, by omega⟩
        | cons hf _ ih =>
          intro b hb
          obtain ⟨a, ha, e⟩ := ih hb
          obtain ⟨a', ha', e'⟩ := pass_stable st hf ha
          exact ⟨a', ha', by omega⟩
      exact go q1.walk hb'
    rw [ha] at ha'; cases ha'
    have hn := nodup_le q3 (U := U) (fun x hx => by
      rcases List.mem_cons.mp hx with rfl | hx
      · exact hv
      · exact q1.mem hU x hx)
    have := (low_sum hg q1 (List.nodup_cons.mp q3).2).1
    rw [List.length_cons, q1.len] at hn
    omega
  have sat := feas_of hU (fun u hu => let ⟨a, ha, _⟩ := all u hu; ⟨a, ha⟩) st
  obtain ⟨z, hz, ez⟩ := all 0 h0
  have lz := low 0 h0 z hz
  refine ⟨fun u => (r.1 u).getD 0 - z, fun f hf => ?_, by simp [hz], fun u hu => ?_⟩
  · have := sat f hf
    unfold Sat at this ⊢
    simp only at this ⊢
    omega
  · obtain ⟨a, ha, e⟩ := all u hu
    have := low u hu a ha
    simp only [ha, Option.getD_some]
    omega
/-! ### a fact more -/
theorem bound_all {α : Type} (xs : List α) (P : α → Int → Prop) (h : ∀ x ∈ xs, ∃ m, ∀ k, m ≤ k → P x k) : ∃ m, ∀ x ∈ xs, ∀ k, m ≤ k → P x k := by
  induction xs with
  | nil => exact ⟨0, fun x hx => by cases hx⟩
  | cons x xs ih =>
    obtain ⟨m, hm⟩ := ih fun y hy => h y (List.mem_cons_of_mem _ hy)
    obtain ⟨n, hn⟩ := h x List.mem_cons_self
    refine ⟨max m n, fun y hy k hk => ?_⟩
    rcases List.mem_cons.mp hy with rfl | hy
    · exact hn k (by omega)
    · exact hm y hy k (by omega)
/-- where all walks from i to j are above c, there are numbers above c too -/
theorem feas_add {fs : List Fact} {U : List Int} (hU : Names fs U) (hF : Feas fs) {i j c : Int} (h : ∀ ps s, Walk fs i j ps s → c < s) : Feas (fs ++ [(j, i, 0 - c - 1)]) := by
  obtain ⟨x, hx⟩ := hF
  have hF : Feas fs := ⟨x, hx⟩
  -- the least sums to j
  let l0 : Mp := fun u => if u = j then some 0 else none
  have hV : Names fs (j :: U) := fun f hf => ⟨List.mem_cons_of_mem _ (hU f hf).1, List.mem_cons_of_mem _ (hU f hf).2⟩
  have st : (pass fs (rounds fs (j :: U).length (l0, fun _ => none)).1 (rounds fs (j :: U).length (l0, fun _ => none)).2).2.2 = false := rounds_stop hV hF (by omega)
  have w0 : InvW fs l0 l0 := fun u a h => ⟨u, [], 0, a, .nil _, h, by omega⟩
  have w1 : InvW fs l0 (rounds fs (j :: U).length (l0, fun _ => none)).1 := rounds_inv (s := (l0, fun _ => none)) (fun x _ => InvW fs l0 x) (fun x _ p i j c b h1 h2 _ h => invW_upd h1 h2 h) w0 _
  obtain ⟨b, hb, eb⟩ := rounds_le fs (l0, fun _ => none) (j :: U).length j 0 (by simp [l0])
  generalize rounds fs (j :: U).length (l0, fun _ => none) = r at st w1 hb
  have walks : ∀ u a, r.1 u = some a → ∃ ps, Walk fs u j ps a := fun u a ha => by
    obtain ⟨v, ps, s, b, k1, k2, rfl⟩ := w1 u a ha
    by_cases e : v = j
    · subst e
      simp [l0] at k2
      subst k2
      exact ⟨ps, by simpa using k1⟩
    · simp [l0, e] at k2
  have b0 : 0 ≤ b := by
    obtain ⟨ps, k⟩ := walks j b hb
    exact hF.cycle k
  have b00 : b = 0 := by omega
  subst b00
  obtain ⟨m, hm⟩ := bound_all fs (fun f k => ∀ a, r.1 f.1 = some a → a ≤ x f.2.1 + k + f.2.2) (fun f hf => by
    cases r.1 f.1 with
    | none => exact ⟨0, fun k hk a h => by cases h⟩
    | some a => exact ⟨a - x f.2.1 - f.2.2, fun k hk a' h => by cases h; omega⟩)
  let M := max m (c + 1 - x i)
  refine ⟨fun u => match r.1 u with | some a => a | none => x u + M, fun f hf => ?_⟩
  rcases List.mem_append.mp hf with hf | hf
  · obtain ⟨p, hp⟩ := List.mem_iff_getElem?.mp hf
    have hs := hx f hf
    have hm' := hm f hf M (by omega)
    unfold Sat at hs ⊢
    simp only
    cases h1 : r.1 f.2.1 with
    | some b' =>
      obtain ⟨i', j', c'⟩ := f
      obtain ⟨a, ha, e⟩ := pass_stable st hp h1
      simp only at ha ⊢
      rw [ha]; simp only; exact e
    | none =>
      cases h2 : r.1 f.1 with
      | some a => exact hm' a h2
      | none => simp only; omega
  · simp only [List.mem_singleton] at hf
    subst hf
    unfold Sat
    simp only [hb]
    cases h1 : r.1 i with
    | some a =>
      obtain ⟨ps, k⟩ := walks i a h1
      have := h ps a k
      simp only; omega
    | none => simp only; omega
theorem feas_sub {fs : List Fact} {f : Fact} (h : Feas (fs ++ [f])) : Feas fs := by
  obtain ⟨x, hx⟩ := h
  exact ⟨x, fun g hg => hx g (List.mem_append_left _ hg)⟩
/-- .. and where not, none -/
theorem not_feas_add {fs : List Fact} {i j c s : Int} {ps : List Nat} (k : Walk fs i j ps s) (hs : s ≤ c) : ¬ Feas (fs ++ [(j, i, 0 - c - 1)]) := fun ⟨x, hx⟩ => by
  have h1 := k.sat (x := x) (fun g hg => hx g (List.mem_append_left _ hg))
  have h2 := hx (j, i, 0 - c - 1) (by simp)
  unfold Sat at h2
  simp only at h2
  omega
/-- a walk's places -/
theorem Walk.places {fs : List Fact} {u v s : Int} {ps : List Nat} (h : Walk fs u v ps s) : ∀ p ∈ ps, p < fs.length := by
  induction h with
  | nil => intro p hp; cases hp
  | cons hf _ ih =>
    intro p hp
    rcases List.mem_cons.mp hp with rfl | hp
    · exact (List.getElem?_eq_some_iff.mp hf).1
    · exact ih p hp
end BF
end

section
/-! SpG: numbers_for, against. -/
namespace Sp
open Mi Sem BF
open PySem (PyData Str)
/-- the names 0, 1, .. -/
def nms (n : Nat) : List Int := (List.range n).map fun (i : Nat) => (i : Int)
theorem nms_nodup (n : Nat) : (nms n).Nodup := by
  unfold nms
  rw [List.Nodup, List.pairwise_map]
  exact List.Pairwise.imp (fun {a b} h e => h (by omega)) (List.nodup_range)
theorem mem_nms {n : Nat} {u : Int} : u ∈ nms n ↔ 0 ≤ u ∧ u < n := by
  unfold nms
  simp only [List.mem_map, List.mem_range]
  constructor
  · rintro ⟨i, hi, rfl⟩; omega
  · rintro ⟨a, b⟩; exact ⟨u.toNat, by omega, by omega⟩
@[simp] theorem nms_len (n : Nat) : (nms n).length = n := by simp [nms]
theorem names_nms {fs : List Fact} {n : Nat} (h : ∀ f ∈ fs, Fits n f) : Names fs (nms n) := fun f hf => ⟨mem_nms.mpr (h f hf).1, mem_nms.mpr (h f hf).2⟩
theorem unk_le {fs : List Fact} {n : Nat} (h : ∀ f ∈ fs, Fits n f) (hn : 0 < n) : (unk fs).length ≤ n := by
  have hz := unk_ok fs
  have go : ∀ (fs : List Fact) (U : List Int), (∀ f ∈ fs, Fits n f) → (∀ u ∈ U, u ∈ nms n) → ∀ u ∈ fs.foldl (fun U f => add1 (add1 U f.1) f.2.1) U, u ∈ nms n := by
    intro fs
    induction fs with
    | nil => intro U _ hU; exact hU
    | cons f fs ih =>
      intro U h hU
      refine ih _ (fun g hg => h g (List.mem_cons_of_mem _ hg)) (fun u hu => ?_)
      obtain ⟨h1, h2⟩ := h f List.mem_cons_self
      rcases mem_add1.mp hu with hu | rfl
      · rcases mem_add1.mp hu with hu | rfl
        · exact hU u hu
        · exact mem_nms.mpr h1
      · exact mem_nms.mpr h2
  have := nodup_le hz.1 (go fs [0] h (fun u hu => by simp at hu; subst hu; exact mem_nms.mpr (by omega)))
  simpa using this
theorem rg_items (n : Nat) : (Src.rg 0 n).items = (List.range n).map fun (i : Nat) => W.int (i : Int) := by simp [Src.items, rgItems]
theorem zer_comp2 {fs : List Fact} {h : Hh} {n : Nat} (hn : n < 1000) :
    eComp (iRange1 (eVar 1)) [3] (.nm 3) tYes (eTup (aCons (eVar 3) (aCons (eCon (.int 0)) aNil))) [some (.d (encFs fs)), some (.int n), none, none, none] h =
      .ok (.ref h.length) (h ++ [.lst ((nms n).map fun u => W.d (.tuple [.int u, .int 0]))]) := by
  have e := eComp_pure (i := iRange1 (eVar 1)) (vs := [3]) (g := .nm 3) (t := tYes) (e := eTup (aCons (eVar 3) (aCons (eCon (.int 0)) aNil))) (L := [some (.d (encFs fs)), some (.int n), none, none, none]) (h0 := h) (h := h)
    (enc := fun (i : Nat) => W.int (i : Int)) (s := .rg 0 n) (fun _ => true) (fun (u : Nat) => W.d (.tuple [.int (u : Int), .int 0])) (List.range n)
    (by simp; omega) (rg_items n) (fun _ => trivial) (by simp [sizeMax]; omega)
    (fun u hu => ⟨[some (.d (encFs fs)), some (.int n), none, some (.int u), none], rfl, fun acc => ⟨rfl, fun _ => by simp [mkTup, allD, sizeMax]⟩⟩)
  rw [e, filter_true]
  simp [nms, Function.comp_def]
theorem add_snoc {fs : List Fact} {f : Fact} {M : Hh} (h : fs.length < 16777216) : opAdd (.d (encFs fs)) (.d (.tuple [encF f])) M = some (.d (encFs (fs ++ [f])), M) := by
  have e : mkTup ((fs.map encF).map W.d ++ [W.d (encF f)]) = .d (encFs (fs ++ [f])) := by
    rw [show (fs.map encF).map W.d ++ [W.d (encF f)] = ((fs ++ [f]).map encF).map W.d by simp, mkTup_map]; rfl
  show (match (W.d (encFs fs)).items, (W.d (.tuple [encF f])).items with | some xs, some ys => if xs.length + ys.length ≤ sizeMax then some (mkTup (xs ++ ys), M) else none | _, _ => none) = _
  simp only [encFs, W.items, List.map_cons, List.map_nil, e, List.length_map, List.length_cons, List.length_nil, sizeMax]
  rw [if_pos (by omega)]
/-- what numbers_for answers -/
inductive Nums (fs : List Fact) (n : Nat) : W → Prop where
  | none : ¬ Feas fs → Nums fs n .non
  | some {vs : List Int} : vs.length = n → vs.head? = some 0 → (∀ f ∈ fs, Sat (val vs) f) → Nums fs n (.d (encV vs))
theorem numbers_loop {fs : List Fact} {h : Hh} {n : Nat} {x3 : Option W} (hf : ∀ f ∈ fs, Fits n f) (hl : fs.length < 4000000) (h0 : 0 < n) (hn : n < 64) (hF : Feas fs) (c0 : List W) :
    ∃ G b m, whileL (tVal (eCall m_relaxed (aCons (eVar 0) (aCons (eVar 2) (aCons (eVar 4) aNil))))) l0_numbers_for 1000000
      [some (.d (encFs fs)), some (.int n), some (.ref (h.length + 1)), x3, some (.ref (h.length + 2))] (h ++ [.lst c0, encM eI (zer (nms n)), .dk []]) =
        .nx [some (.d (encFs fs)), some (.int n), some (.ref (h.length + 1)), x3, some (.ref b)] (h ++ G) ∧ G[1]? = some (encM eI m) ∧
      (∀ u ∈ nms n, ∃ a, dlook m u = some a) ∧ ∀ f ∈ fs, Sat (fun u => (dlook m u).getD 0) f := by
  have hV := names_nms hf
  obtain ⟨L2, h2, e, G, b, m, hG, rfl, rfl, ha, hs⟩ := whileL_nat (t := tVal (eCall m_relaxed (aCons (eVar 0) (aCons (eVar 2) (aCons (eVar 4) aNil))))) (body := l0_numbers_for)
    (fun μ L h' => ∃ G b m k, G[1]? = some (encM eI m) ∧ G[b]? = some (O.dk []) ∧ b ≠ 1 ∧ L = [some (.d (encFs fs)), some (.int n), some (.ref (h.length + 1)), x3, some (.ref (h.length + b))] ∧ h' = h ++ G ∧ dlook m = sums fs k (dlook (zer (nms n))) ∧ KeyOk (nms n) m ∧ μ + k = n)
    (fun L h' => ∃ G b m, G[1]? = some (encM eI m) ∧ L = [some (.d (encFs fs)), some (.int n), some (.ref (h.length + 1)), x3, some (.ref b)] ∧ h' = h ++ G ∧ (∀ u ∈ nms n, ∃ a, dlook m u = some a) ∧ ∀ f ∈ fs, Sat (fun u => (dlook m u).getD 0) f)
    (fun μ L h' ⟨G, b, m, k, hG, hb, hb1, e1, e2, hm, hk, hμ⟩ => by
      subst e1 e2
      have gA : (h ++ G)[h.length + 1]? = some (encM eI m) := by rw [app_get]; exact hG
      have gB : (h ++ G)[h.length + b]? = some (encM eN []) := by rw [app_get]; exact hb
      have hr := relaxed_ok (s := (m, [])) gA gB (by omega) hV (by simp; omega) hl ⟨hk, KeyOk.nil⟩
      obtain ⟨r1, r2, r3⟩ := relax_pass fs (m, [])
      have d0 : dlook ([] : List (Int × Nat)) = fun _ => none := rfl
      rw [d0] at r1 r3
      simp only at r1 r3
      have kk := relaxTo_keys hV (s := (m, [])) ⟨hk, KeyOk.nil⟩ fs.length
      have l1 : 1 < G.length := (List.getElem?_eq_some_iff.mp hG).1
      have et : two (h ++ G) (h.length + 1) (h.length + b) (relax fs (m, [])).1 = h ++ (G.set 1 (encM eI (relax fs (m, [])).1.1)).set b (encM eN (relax fs (m, [])).1.2) := by
        unfold two; rw [app_set, app_set]
      rw [et] at hr
      have g1 : ((G.set 1 (encM eI (relax fs (m, [])).1.1)).set b (encM eN (relax fs (m, [])).1.2))[1]? = some (encM eI (relax fs (m, [])).1.1) := by
        rw [List.getElem?_set_ne hb1, List.getElem?_set_self l1]
      have all : ∀ k, ∀ u ∈ nms n, ∃ a, sums fs k (dlook (zer (nms n))) u = some a := fun k u hu => by
        obtain ⟨a, ha⟩ := dlook_mem (m := zer (nms n)) (u := u) (by rw [zer_keys]; exact hu)
        obtain ⟨a', ha', _⟩ := rounds_le fs (dlook (zer (nms n)), fun _ => none) k u a ha
        exact ⟨a', by rw [sums_rounds fs _ (fun _ => none)]; exact ha'⟩
      have step : dlook (relax fs (m, [])).1.1 = sums fs (k + 1) (dlook (zer (nms n))) := by rw [r1, hm]; rfl
      cases hc : (relax fs (m, [])).2 with
      | false =>
        rw [hc] at hr
        refine .inl ⟨_, by simp [hr], _, _, _, g1, rfl, rfl, fun u hu => by rw [step]; exact all (k + 1) u hu, ?_⟩
        rw [hc] at r3
        have same : (pass fs (dlook m) fun _ => none).1 = dlook m := congrArg (·.1) (passTo_false r3.symm)
        rw [r1, same]
        exact feas_of hV (fun u hu => by rw [hm]; exact all k u hu) r3.symm
      | true =>
        rw [hc] at hr
        rw [hc] at r3
        have nk : ¬ n ≤ k + 1 := fun hle => by
          rw [hm, sums_rounds fs _ (fun _ => none)] at r3
          have := rounds_stop hV hF (l := dlook (zer (nms n))) (q := fun _ => none) (n := k) (by simpa using hle)
          rw [(pass_indep _ _ _ (fun _ => none)).2] at this
          rw [this] at r3
          cases r3
        refine .inr ⟨_, [some (.d (encFs fs)), some (.int n), some (.ref (h.length + 1)), x3, some (.ref (h.length + G.length))], h ++ ((G.set 1 (encM eI (relax fs (m, [])).1.1)).set b (encM eN (relax fs (m, [])).1.2) ++ [.dk []]), by simp [hr]; rfl, .inl (by simp [l0_numbers_for]), μ - 1, by omega, _, G.length, _, k + 1, ?_, ?_, by omega, rfl, rfl, step, kk.1, by omega⟩
        · rw [List.getElem?_append_left (by simp; omega)]; exact g1
        · rw [List.getElem?_append_right (by simp)]; simp) 1000000 n
      (L := [some (.d (encFs fs)), some (.int n), some (.ref (h.length + 1)), x3, some (.ref (h.length + 2))]) (h := h ++ [.lst c0, encM eI (zer (nms n)), .dk []])
      ⟨_, 2, _, 0, rfl, rfl, by omega, rfl, rfl, rfl, zer_ok (nms_nodup n) (fun _ h => h), by omega⟩ (by omega)
  exact ⟨G, b, m, e, hG, ha, hs⟩
theorem numbers_ok {fs : List Fact} {h : Hh} {n : Nat} (hf : ∀ f ∈ fs, Fits n f) (hl : fs.length < 4000000) (h0 : 0 < n) (hn : n < 64) : ∃ w, m_numbers_for [.d (encFs fs), .d (.int (n : Int))] h = .ok w h ∧ Nums fs n w := by
  have hU : (unk fs).length < 64 := Nat.lt_of_le_of_lt (unk_le hf h0) hn
  have m0 : (0 : Int) ∈ nms n := mem_nms.mpr (by omega)
  rcases clash_ok (h := h) hl hU with ⟨e, hF⟩ | ⟨row, u, s, e, k1, k2, k3, _⟩
  · obtain ⟨G, b, m, e1, hG, ha, hs⟩ := numbers_loop (h := h) (x3 := none) hf hl h0 hn hF ((nms n).map fun u => W.d (.tuple [.int u, .int 0]))
    have gA : ∀ T : Hh, ((h ++ G) ++ T)[h.length + 1]? = some (encM eI m) := fun T => by rw [List.append_assoc, app_get, List.getElem?_append_left (List.getElem?_eq_some_iff.mp hG).1]; exact hG
    obtain ⟨a0, ha0⟩ := ha 0 m0
    let f : Nat → Int := fun u => (dlook m (u : Int)).getD 0 - a0
    have ec := eComp_pure (i := iRange1 (eVar 1)) (vs := [3]) (g := .nm 3) (t := tYes) (e := eOp2 opSub (eOp2 opIx (eVar 2) (eVar 3)) (eOp2 opIx (eVar 2) (eCon (.int 0)))) (L := [some (.d (encFs fs)), some (.int n), some (.ref (h.length + 1)), none, some (.ref b)]) (h0 := h ++ G) (h := h ++ G)
      (enc := fun (i : Nat) => W.int (i : Int)) (s := .rg 0 n) (fun _ => true) (fun u => W.int (f u)) (List.range n)
      (by simp; omega) (rg_items n) (fun _ => trivial) (by simp [sizeMax]; omega)
      (fun u hu => ⟨[some (.d (encFs fs)), some (.int n), some (.ref (h.length + 1)), some (.int u), some (.ref b)], rfl, fun acc => ⟨rfl, fun _ => by
        obtain ⟨a, hau⟩ := ha u (mem_nms.mpr (by rw [List.mem_range] at hu; omega))
        simp only [eOp2_eq, eVar_eq, List.getElem?_cons_succ, List.getElem?_cons_zero, R.bind_ok, opIx_dk (gA _) hau, R.of_some, eCon_eq, opIx_dk (gA _) ha0, sub_int, f, hau, Option.getD_some]⟩⟩)
    rw [filter_true] at ec
    have eg : eGc (eOpN bTuple (aCons (eComp (iRange1 (eVar 1)) [3] (.nm 3) tYes (eOp2 opSub (eOp2 opIx (eVar 2) (eVar 3)) (eOp2 opIx (eVar 2) (eCon (.int 0))))) aNil)) [some (.d (encFs fs)), some (.int n), some (.ref (h.length + 1)), none, some (.ref b)] (h ++ G) = .ok (.d (encV ((List.range n).map f))) (h ++ G) := by
      refine eGc_ok (h' := (h ++ G) ++ [.lst ((List.range n).map fun u => W.int (f u))]) ?_ (by simp) List.take_left
      have hT := tuple_lst (xs := ((List.range n).map f).map PyData.int) (a := (h ++ G).length) (M := (h ++ G) ++ [.lst ((List.range n).map fun u => W.int (f u))]) (by rw [app_get0]; simp [Function.comp_def])
      rw [eOpN_eq, aCons_eq, ec]
      simp only [R.bind_ok, aNil_eq, hT, R.of_some]
      rfl
    refine ⟨.d (encV ((List.range n).map f)), ?_, .some (by simp) ?_ ?_⟩
    · have eD := dict_zer (U := nms n) (a := h.length) (M := h ++ [.lst ((nms n).map fun u => W.d (.tuple [.int u, .int 0]))]) (nms_nodup n) (by rw [app_get0]; rfl)
      have l1 : (h ++ [O.lst ((nms n).map fun u => W.d (.tuple [.int u, .int 0]))]).length = h.length + 1 := by simp
      have l2 : ((h ++ [O.lst ((nms n).map fun u => W.d (.tuple [.int u, .int 0]))]) ++ [encM eI (zer (nms n))]).length = h.length + 2 := by simp
      have l3 : ((h ++ [O.lst ((nms n).map fun u => W.d (.tuple [.int u, .int 0]))]) ++ [encM eI (zer (nms n))]) ++ [.dk []] = h ++ [.lst ((nms n).map fun u => W.d (.tuple [.int u, .int 0])), encM eI (zer (nms n)), .dk []] := by simp
      simp only [m_numbers_for, fn, b_numbers_for, List.length_cons, List.length_nil, if_true, List.map_cons, List.map_nil, List.replicate, List.cons_append, List.nil_append, Nat.reduceAdd, Nat.reduceSub, sCons_eq, sIf_eq, tVal_eq, eOp2_eq, eCall_eq, aCons_eq, aNil_eq, eVar_eq, List.getElem?_cons_zero, R.bind_ok, e, eCon_eq, opIsN, isN, R.of_some, asBool_bool, R.then_ok, bne_self_eq_false, Bool.false_eq_true, if_false, sNil_eq, Out.seq_nx, sAsg_eq, eOpN_eq, zer_comp2 (show n < 1000 by omega), eD, put_nm, List.set_cons_succ, List.set_cons_zero, eNewK_eq, sWhile_eq, l1, l2, l3, e1, sRet_eq, eg, Out.seq_rt, outR_rt, tidy_ok, gc_d_app]
    · cases n with
      | zero => omega
      | succ k => simp [List.range_succ_eq_map, f, ha0]
    · intro g hg
      have := hs g hg
      obtain ⟨h1, h2⟩ := hf g hg
      have v : ∀ u : Int, 0 ≤ u ∧ u < n → val ((List.range n).map f) u = (dlook m u).getD 0 - a0 := fun u hu => by
        have hlt : u.toNat < n := by omega
        have e2 : ((u.toNat : Nat) : Int) = u := by omega
        simp [val, hlt, f, e2]
      unfold Sat at this ⊢
      rw [v _ h1, v _ h2]
      simp only at this
      omega
  · refine ⟨.non, ?_, .none fun hF => by have := hF.cycle k1; omega⟩
    simp [m_numbers_for, fn, b_numbers_for, e, opIsN, isN, encR]
theorem against_ok {fs : List Fact} {h : Hh} {n : Nat} {i j c : Int} (hf : ∀ f ∈ fs, Fits n f) (hi : Fits n (i, j, c)) (hl : fs.length < 3999999) (h0 : 0 < n) (hn : n < 64) :
    ∃ w, m_against [.d (encFs fs), .d (encF (i, j, c)), .d (.int (n : Int))] h = .ok w h ∧ Nums (fs ++ [(j, i, 0 - c - 1)]) n w := by
  obtain ⟨w, e, hN⟩ := numbers_ok (fs := fs ++ [(j, i, 0 - c - 1)]) (h := h) (n := n) (fun f hf' => by
    rcases List.mem_append.mp hf' with hf' | hf'
    · exact hf f hf'
    · simp only [List.mem_singleton] at hf'; subst hf'; exact ⟨hi.2, hi.1⟩) (by simp; omega) h0 hn
  refine ⟨w, ?_, hN⟩
  have e1 : bTuple [.d (encFs fs)] h = some (.d (encFs fs), h) := by
    have : mkTup (fs.map fun f => W.d (encF f)) = .d (encFs fs) := by
      rw [show (fs.map fun f => W.d (encF f)) = (fs.map encF).map W.d by simp, mkTup_map]; rfl
    show ((W.d (encFs fs)).items.map fun ws => (mkTup ws, h)) = _
    rw [items_Fs, Option.map_some, this]
  have e2 : mkTup [.d (.int j), .d (.int i), .d (.int (0 - c - 1))] = .d (encF (j, i, 0 - c - 1)) := rfl
  have e3 : mkTup [.d (encF (j, i, 0 - c - 1))] = .d (.tuple [encF (j, i, 0 - c - 1)]) := rfl
  have e4 := add_snoc (fs := fs) (f := (j, i, 0 - c - 1)) (M := h) (by omega)
  simp only [m_against, fn, b_against, List.length_cons, List.length_nil, if_true, List.map_cons, List.map_nil, List.replicate, List.cons_append, List.nil_append, Nat.reduceAdd, Nat.reduceSub, sCons_eq, sAsg_eq, eVar_eq, List.getElem?_cons_succ, List.getElem?_cons_zero, R.then_ok, put_tp, items_F, setAll, List.set_cons_succ, List.set_cons_zero, Out.seq_nx, sRet_eq, eCall_eq, aCons_eq, aNil_eq, eOp2_eq, eOpN_eq, R.bind_ok, e1, R.of_some, eTup_eq, eCon_eq, sub_int, sizeMax, Nat.reduceLeDiff, e2, e3, e4, e, Out.seq_rt, outR_rt, tidy_ok]
  cases hN <;> rw [gc_d]
end Sp
end

section
namespace Sem
open Mi
/-! _law_all_rows: 0 many, 1 most, 2 rows, 3 turn, 4 longer, 5 row, 6 number -/
noncomputable def l1__law_all_rows : SM :=
  (sCons (sAsg (.nm 4) (eOp2 opAdd (eVar 4) (eComp (iRange2 (eOp2 opSub (eCon (.int 0)) (eVar 1)) (eOp2 opAdd (eVar 1) (eCon (.int 1)))) [6] (.nm 6) tYes (eOp2 opAdd (eVar 5) (eTup (aCons (eVar 6) aNil))))))
  sNil)
noncomputable def l0__law_all_rows : SM :=
  (sCons (sAsg (.nm 4) (eLst aNil))
  (sCons (sFor (iSeq (eVar 2)) (.nm 5)
  l1__law_all_rows)
  (sCons (sAsg (.nm 2) (eVar 4))
  sNil)))
noncomputable def b__law_all_rows : SM :=
  (sCons (sAsg (.nm 2) (eLst (aCons (eTup (aCons (eCon (.int 0)) aNil)) aNil)))
  (sCons (sFor (iRange1 (eOp2 opSub (eVar 0) (eCon (.int 1)))) (.nm 3)
  l0__law_all_rows)
  (sCons (sRet (eVar 2))
  sNil)))
noncomputable def m__law_all_rows : Fn := fn 2 7 b__law_all_rows

/-! _law_fit: 0 values, 1 facts, 2 i, 3 j, 4 c -/
noncomputable def b__law_fit : SM :=
  (sCons (sRet (eGc (eOp2 opEq (eComp (iSeq (eVar 1)) [2, 3, 4] (.tp [2, 3, 4]) (tVal (eOp2 opGt (eOp2 opIx (eVar 0) (eVar 2)) (eOp2 opAdd (eOp2 opIx (eVar 0) (eVar 3)) (eVar 4)))) (eCon (.int 1))) (eLst aNil))))
  sNil)
noncomputable def m__law_fit : Fn := fn 2 5 b__law_fit

/-! _law_right_numbers: 0 told, 1 facts, 2 many, 3 x -/
noncomputable def b__law_right_numbers : SM :=
  (sCons (sIf (tOr (tNot (tVal (eOp1 (isI "tuple") (eVar 0)))) (tOr (tVal (eOp2 opNe (eOpN bLen (aCons (eVar 0) aNil)) (eVar 2))) (tVal (eOp2 opNe (eOp2 opIx (eVar 0) (eCon (.int 0))) (eCon (.int 0))))))
  (sCons (sRet (eCon (.bool false)))
  sNil)
  sNil)
  (sCons (sRet (eAnd (eGc (eOp2 opEq (eComp (iSeq (eVar 0)) [3] (.nm 3) (tOr (tNot (tVal (eOp1 (isI "int") (eVar 3)))) (tVal (eOp1 (isI "bool") (eVar 3)))) (eVar 3)) (eLst aNil))) (eCall m__law_fit (aCons (eVar 0) (aCons (eVar 1) aNil)))))
  sNil))
noncomputable def m__law_right_numbers : Fn := fn 3 4 b__law_right_numbers

/-! _law_sums: 0 facts, 1 many, 2 far, 3 least, 4 j, 5 i, 6 c, 7 turn, 8 longer, 9 k -/
noncomputable def l3__law_sums : SM :=
  (sCons (sIf (tVal (eOp2 opLt (eOp2 opIx (eOp2 opIx (eVar 3) (eVar 5)) (eVar 5)) (eCon (.int 0))))
  (sCons (sRet (eCon (.bool false)))
  sNil)
  sNil)
  sNil)
noncomputable def l2__law_sums : SM :=
  (sCons (sExpr (eMetL mAppend (eVar 8) (aCons (eComp (iRange1 (eVar 1)) [4] (.nm 4) tYes (eGc (eOpN bMin (aCons (eComp (iRange1 (eVar 1)) [9] (.nm 9) tYes (eOp2 opAdd (eOp2 opIx (eOp2 opIx (eVar 3) (eVar 5)) (eVar 9)) (eOp2 opIx (eOp2 opIx (eVar 3) (eVar 9)) (eVar 4)))) aNil)))) aNil)))
  sNil)
noncomputable def l1__law_sums : SM :=
  (sCons (sAsg (.nm 8) (eLst aNil))
  (sCons (sFor (iRange1 (eVar 1)) (.nm 5)
  l2__law_sums)
  (sCons (sAsg (.nm 3) (eVar 8))
  sNil)))
noncomputable def l0__law_sums : SM :=
  (sCons (sSet setIx (eOp2 opIx (eVar 3) (eVar 5)) (eVar 4) (eOpN bMin (aCons (eOp2 opIx (eOp2 opIx (eVar 3) (eVar 5)) (eVar 4)) (aCons (eVar 6) aNil))))
  sNil)
noncomputable def b__law_sums : SM :=
  (sCons (sAsg (.nm 2) (eOp2 opPow (eCon (.int 10)) (eCon (.int 15))))
  (sCons (sAsg (.nm 3) (eComp (iRange1 (eVar 1)) [5] (.nm 5) tYes (eComp (iRange1 (eVar 1)) [4] (.nm 4) tYes (eGc (eOp2 opIx (eLst (aCons (eVar 2) (aCons (eCon (.int 0)) aNil))) (eOpN bInt (aCons (eOp2 opEq (eVar 5) (eVar 4)) aNil)))))))
  (sCons (sFor (iSeq (eVar 0)) (.tp [5, 4, 6])
  l0__law_sums)
  (sCons (sFor (iRange1 (eCon (.int 6))) (.nm 7)
  l1__law_sums)
  (sCons (sFor (iRange1 (eVar 1)) (.nm 5)
  l3__law_sums)
  (sCons (sRet (eVar 3))
  sNil))))))
noncomputable def m__law_sums : Fn := fn 2 10 b__law_sums

/-! _law_follows: 0 least, 1 fact -/
noncomputable def b__law_follows : SM :=
  (sCons (sRet (eOr (eOp2 (opIsB false) (eVar 0) (eCon (.bool false))) (eOp2 opLe (eOp2 opIx (eOp2 opIx (eVar 0) (eOp2 opIx (eVar 1) (eCon (.int 0)))) (eOp2 opIx (eVar 1) (eCon (.int 1)))) (eOp2 opIx (eVar 1) (eCon (.int 2))))))
  sNil)
noncomputable def m__law_follows : Fn := fn 2 2 b__law_follows

/-! _law_many: 0 box, 1 many, 2 size, 3 facts, 4 turn, 5 c, 6 least, 7 fact, 8 told -/
noncomputable def l1__law_many : SM :=
  (sCons (sAsg (.nm 7) (eTup (aCons (eCall m__law_draw (aCons (eVar 0) (aCons (eVar 1) aNil))) (aCons (eCall m__law_draw (aCons (eVar 0) (aCons (eVar 1) aNil))) (aCons (eOp2 opMul (eOp2 opSub (eCall m__law_draw (aCons (eVar 0) (aCons (eCon (.int 20)) aNil))) (eCon (.int 2))) (eVar 2)) aNil)))))
  (sCons (sAsg (.nm 8) (eCall m_chain (aCons (eVar 3) (aCons (eVar 7) aNil))))
  (sCons (sIf (tOr (tVal (eOp2 opNe (eOp2 (opIsN true) (eVar 8) (eCon .non)) (eCall m__law_follows (aCons (eVar 6) (aCons (eVar 7) aNil))))) (tAnd (tVal (eOp2 (opIsN true) (eVar 8) (eCon .non))) (tNot (tVal (eCall m_proves (aCons (eVar 3) (aCons (eVar 7) (aCons (eVar 8) aNil))))))))
  (sCons (sRet (eCon (.bool false)))
  sNil)
  sNil)
  (sCons (sAsg (.nm 8) (eCall m_against (aCons (eVar 3) (aCons (eVar 7) (aCons (eVar 1) aNil)))))
  (sCons (sIf (tVal (eOp2 opNe (eOp2 (opIsN false) (eVar 8) (eCon .non)) (eCall m__law_follows (aCons (eVar 6) (aCons (eVar 7) aNil)))))
  (sCons (sRet (eCon (.bool false)))
  sNil)
  sNil)
  (sCons (sIf (tAnd (tVal (eOp2 (opIsN true) (eVar 8) (eCon .non))) (tOr (tNot (tVal (eCall m__law_right_numbers (aCons (eVar 8) (aCons (eVar 3) (aCons (eVar 1) aNil)))))) (tVal (eCall m__law_fit (aCons (eVar 8) (aCons (eLst (aCons (eVar 7) aNil)) aNil))))))
  (sCons (sRet (eCon (.bool false)))
  sNil)
  sNil)
  sNil))))))
noncomputable def l0__law_many : SM :=
  (sCons (sAsg (.nm 5) (eOp2 opMul (eOp2 opSub (eCall m__law_draw (aCons (eVar 0) (aCons (eCon (.int 12)) aNil))) (eCon (.int 1))) (eVar 2)))
  (sCons (sAsg (.nm 3) (eOp2 opAdd (eVar 3) (eTup (aCons (eTup (aCons (eCall m__law_draw (aCons (eVar 0) (aCons (eVar 1) aNil))) (aCons (eCall m__law_draw (aCons (eVar 0) (aCons (eVar 1) aNil))) (aCons (eVar 5) aNil)))) aNil))))
  sNil))
noncomputable def b__law_many : SM :=
  (sCons (sAsg (.nm 1) (eOp2 opAdd (eCon (.int 5)) (eCall m__law_draw (aCons (eVar 0) (aCons (eCon (.int 26)) aNil)))))
  (sCons (sAsg (.nm 2) (eGc (eOp2 opIx (eLst (aCons (eCon (.int 1)) (aCons (eCon (.int 7)) (aCons (eOp2 opPow (eCon (.int 10)) (eCon (.int 7))) aNil)))) (eCall m__law_draw (aCons (eVar 0) (aCons (eCon (.int 3)) aNil))))))
  (sCons (sAsg (.nm 3) (eTup aNil))
  (sCons (sFor (iRange1 (eCall m__law_draw (aCons (eVar 0) (aCons (eCon (.int 61)) aNil)))) (.nm 4)
  l0__law_many)
  (sCons (sAsg (.nm 6) (eCall m__law_sums (aCons (eVar 3) (aCons (eVar 1) aNil))))
  (sCons (sIf (tVal (eOp2 opEq (eOp2 (opIsN false) (eCall m_clash (aCons (eVar 3) aNil)) (eCon .non)) (eOp2 (opIsB false) (eVar 6) (eCon (.bool false)))))
  (sCons (sRet (eCon (.bool false)))
  sNil)
  sNil)
  (sCons (sFor (iRange1 (eCon (.int 6))) (.nm 4)
  l1__law_many)
  (sCons (sRet (eCon (.bool true)))
  sNil))))))))
noncomputable def m__law_many : Fn := fn 1 9 b__law_many

/-! law: 0 script, 1 box, 2 many, 3 facts, 4 turn, 5 i, 6 fact, 7 rows, 8 good, 9 row, 10 bad, 11 told -/
noncomputable def l0_law : SM :=
  (sCons (sAsg (.nm 5) (eCall m__law_draw (aCons (eVar 1) (aCons (eVar 2) aNil))))
  (sCons (sAsg (.nm 3) (eOp2 opAdd (eVar 3) (eTup (aCons (eTup (aCons (eVar 5) (aCons (eOp2 opMod (eOpN bInt (aCons (eOp2 opAdd (eOp2 opAdd (eVar 5) (eCon (.int 1))) (eCall m__law_draw (aCons (eVar 1) (aCons (eOp2 opSub (eVar 2) (eCon (.int 1))) aNil)))) aNil)) (eVar 2)) (aCons (eOp2 opSub (eCall m__law_draw (aCons (eVar 1) (aCons (eCon (.int 5)) aNil))) (eCon (.int 2))) aNil)))) aNil))))
  sNil))
noncomputable def b_law : SM :=
  (sCons (sAsg (.nm 1) (eLst (aCons (eCall m__law_digits (aCons (eVar 0) (aCons (eCon (.int 0)) (aCons (eCon (.int 63)) aNil)))) (aCons (eCon (.int 0)) aNil))))
  (sCons (sIf (tVal (eOp2 opEq (eCall m__law_draw (aCons (eVar 1) (aCons (eCon (.int 3)) aNil))) (eCon (.int 0))))
  (sCons (sRet (eCall m__law_many (aCons (eVar 1) aNil)))
  sNil)
  sNil)
  (sCons (sAsg (.nm 2) (eOp2 opAdd (eCon (.int 2)) (eCall m__law_draw (aCons (eVar 1) (aCons (eCon (.int 3)) aNil)))))
  (sCons (sAsg (.nm 3) (eTup aNil))
  (sCons (sFor (iRange1 (eCall m__law_draw (aCons (eVar 1) (aCons (eGc (eOp2 opIx (eLst (aCons (eCon (.int 7)) (aCons (eCon (.int 7)) (aCons (eCon (.int 5)) aNil)))) (eOp2 opSub (eVar 2) (eCon (.int 2))))) aNil)))) (.nm 4)
  l0_law)
  (sCons (sAsg (.nm 6) (eTup (aCons (eCall m__law_draw (aCons (eVar 1) (aCons (eVar 2) aNil))) (aCons (eCall m__law_draw (aCons (eVar 1) (aCons (eVar 2) aNil))) (aCons (eOp2 opSub (eCall m__law_draw (aCons (eVar 1) (aCons (eCon (.int 7)) aNil))) (eCon (.int 3))) aNil)))))
  (sCons (sAsg (.nm 7) (eCall m__law_all_rows (aCons (eVar 2) (aCons (eCon (.int 9)) aNil))))
  (sCons (sAsg (.nm 8) (eComp (iSeq (eVar 7)) [9] (.nm 9) (tVal (eCall m__law_fit (aCons (eVar 9) (aCons (eVar 3) aNil)))) (eVar 9)))
  (sCons (sAsg (.nm 10) (eComp (iSeq (eVar 8)) [9] (.nm 9) (tNot (tVal (eCall m__law_fit (aCons (eVar 9) (aCons (eLst (aCons (eVar 6) aNil)) aNil))))) (eVar 9)))
  (sCons (sAsg (.nm 11) (eCall m_clash (aCons (eVar 3) aNil)))
  (sCons (sIf (tOr (tVal (eOp2 opNe (eOp2 (opIsN false) (eVar 11) (eCon .non)) (eGc (eOp2 opNe (eVar 8) (eLst aNil))))) (tAnd (tVal (eOp2 (opIsN true) (eVar 11) (eCon .non))) (tNot (tVal (eCall m_proves (aCons (eVar 3) (aCons (eTup (aCons (eCon (.int 0)) (aCons (eCon (.int 1)) (aCons (eOp1 opNeg (eCon (.int 999))) aNil)))) (aCons (eVar 11) aNil))))))))
  (sCons (sRet (eCon (.bool false)))
  sNil)
  sNil)
  (sCons (sAsg (.nm 11) (eCall m_chain (aCons (eVar 3) (aCons (eVar 6) aNil))))
  (sCons (sIf (tOr (tVal (eOp2 opNe (eOp2 (opIsN false) (eVar 11) (eCon .non)) (eGc (eOp2 opNe (eVar 10) (eLst aNil))))) (tAnd (tVal (eOp2 (opIsN true) (eVar 11) (eCon .non))) (tNot (tVal (eCall m_proves (aCons (eVar 3) (aCons (eVar 6) (aCons (eVar 11) aNil))))))))
  (sCons (sRet (eCon (.bool false)))
  sNil)
  sNil)
  (sCons (sAsg (.nm 11) (eCall m_numbers_for (aCons (eVar 3) (aCons (eVar 2) aNil))))
  (sCons (sIf (tGc (tVal (eOp2 opEq (eVar 8) (eLst aNil))))
  (sCons (sIf (tVal (eOp2 (opIsN true) (eVar 11) (eCon .non)))
  (sCons (sRet (eCon (.bool false)))
  sNil)
  sNil)
  sNil)
  (sCons (sIf (tOr (tNot (tVal (eCall m__law_right_numbers (aCons (eVar 11) (aCons (eVar 3) (aCons (eVar 2) aNil)))))) (tVal (eOp2 (opIsB true) (eCall m_fulfil (aCons (eVar 11) (aCons (eVar 3) aNil))) (eCon (.bool true)))))
  (sCons (sRet (eCon (.bool false)))
  sNil)
  sNil)
  sNil))
  (sCons (sAsg (.nm 11) (eCall m_against (aCons (eVar 3) (aCons (eVar 6) (aCons (eVar 2) aNil)))))
  (sCons (sIf (tGc (tVal (eOp2 opEq (eVar 10) (eLst aNil))))
  (sCons (sRet (eOp2 (opIsN false) (eVar 11) (eCon .non)))
  sNil)
  sNil)
  (sCons (sRet (eAnd (eCall m__law_right_numbers (aCons (eVar 11) (aCons (eVar 3) (aCons (eVar 2) aNil)))) (eAnd (eNot (eCall m__law_fit (aCons (eVar 11) (aCons (eLst (aCons (eVar 6) aNil)) aNil)))) (eOp2 (opIsB false) (eCall m_fulfil (aCons (eVar 11) (aCons (eTup (aCons (eVar 6) aNil)) aNil))) (eCon (.bool false))))))
  sNil))))))))))))))))))
noncomputable def m_law : Fn := fn 1 12 b_law
end Sem
end

section
/-! Sp00: the law k00: fits, rows. -/
namespace Sp
open Mi Sem BF
open PySem (PyData Str)
theorem fit_ok {vs : List Int} {fs : List Fact} {h : Hh} {fw : W} {s : Src} (hr : ∀ f ∈ fs, Fits vs.length f) (hl : fs.length ≤ 16777216)
    (hi : iSeq (eVar 1) [some (.d (encV vs)), some fw, none, none, none] h = .ok s h) (hs : s.items = fs.map fun f => W.d (encF f)) (hok : ∀ acc : List W, s.ok (h ++ [.lst acc])) :
    ∃ b, m__law_fit [.d (encV vs), fw] h = .ok (.bool b) h ∧ (b = true ↔ ∀ f ∈ fs, Sat (val vs) f) := by
  let p : Fact → Bool := fun f => decide (val vs f.2.1 + f.2.2 < val vs f.1)
  have e := eComp_pure (i := iSeq (eVar 1)) (vs := [2, 3, 4]) (g := .tp [2, 3, 4]) (t := tVal (eOp2 opGt (eOp2 opIx (eVar 0) (eVar 2)) (eOp2 opAdd (eOp2 opIx (eVar 0) (eVar 3)) (eVar 4))))
    (e := eCon (.int 1)) (L := [some (.d (encV vs)), some fw, none, none, none]) (h0 := h) (h := h) (enc := fun f => W.d (encF f)) (s := s) p (fun f => W.int 1) fs hi hs hok (by simpa [sizeMax] using hl)
    (fun f hf => ⟨[some (.d (encV vs)), some fw, some (.int f.1), some (.int f.2.1), some (.int f.2.2)], rfl, fun acc => by
      obtain ⟨h1, h2⟩ := hr f hf
      exact ⟨by simp [ix_V h1, ix_V h2, p], fun _ => rfl⟩⟩)
  have ei : ((fs.filter p).map fun f => W.int 1) = ((fs.filter p).map fun f => (1 : Int)).map W.int := by simp
  rw [ei] at e
  refine ⟨((fs.filter p).map fun f => (1 : Int)).isEmpty, ?_, ?_⟩
  · have eg : eGc (eOp2 opEq (eComp (iSeq (eVar 1)) [2, 3, 4] (.tp [2, 3, 4]) (tVal (eOp2 opGt (eOp2 opIx (eVar 0) (eVar 2)) (eOp2 opAdd (eOp2 opIx (eVar 0) (eVar 3)) (eVar 4)))) (eCon (.int 1))) (eLst aNil))
        [some (.d (encV vs)), some fw, none, none, none] h = .ok (.bool ((fs.filter p).map fun f => (1 : Int)).isEmpty) h := by
      refine eGc_ok (h' := h ++ [.lst (((fs.filter p).map fun f => (1 : Int)).map W.int), .lst []]) ?_ (by simp) List.take_left
      have q := eq_nil (xs := (fs.filter p).map fun f => (1 : Int)) (a := h.length) (b := h.length + 1) (M := h ++ [.lst (((fs.filter p).map fun f => (1 : Int)).map W.int), .lst []]) get2_0 get2_1
      have a1 : (h ++ [O.lst (((fs.filter p).map fun f => (1 : Int)).map W.int)]) ++ [.lst []] = h ++ [.lst (((fs.filter p).map fun f => (1 : Int)).map W.int), .lst []] := by simp
      have a2 : (h ++ [O.lst (((fs.filter p).map fun f => (1 : Int)).map W.int)]).length = h.length + 1 := by simp
      rw [eOp2_eq, e]
      simp only [R.bind_ok, eLst_eq, aNil_eq, List.length_nil, Nat.zero_le, if_true, a1, a2]
      rw [show opEq = opEqB false from rfl, q]
      rfl
    simp only [m__law_fit, fn, b__law_fit, List.length_cons, List.length_nil, if_true, List.map_cons, List.map_nil, List.replicate, List.cons_append, List.nil_append, Nat.reduceAdd, Nat.reduceSub, sCons_eq, sRet_eq, eg, R.then_ok, Out.seq_rt, outR_rt, tidy_ok, gc_d]
  · rw [List.isEmpty_iff, List.map_eq_nil_iff, List.filter_eq_nil_iff]
    unfold Sat
    constructor
    · intro q f hf
      have := q f hf
      simp [p] at this
      exact this
    · intro q f hf
      have := q f hf
      simp [p]
      exact this
theorem fit_tup {vs : List Int} {fs : List Fact} {h : Hh} (hr : ∀ f ∈ fs, Fits vs.length f) (hl : fs.length ≤ 16777216) : ∃ b, m__law_fit [.d (encV vs), .d (encFs fs)] h = .ok (.bool b) h ∧ (b = true ↔ ∀ f ∈ fs, Sat (val vs) f) :=
  fit_ok (s := .tp (fs.map fun f => W.d (encF f))) hr hl (by simp) rfl (fun _ => trivial)
theorem fit_one {vs : List Int} {f : Fact} {h : Hh} {a : Nat} (hr : Fits vs.length f) (ha : h[a]? = some (.lst [.d (encF f)])) : ∃ b, m__law_fit [.d (encV vs), .ref a] h = .ok (.bool b) h ∧ (b = true ↔ Sat (val vs) f) := by
  obtain ⟨b, e, hb⟩ := fit_ok (vs := vs) (fs := [f]) (h := h) (fw := .ref a) (s := .ls a [.d (encF f)]) (fun g hg => by simp at hg; subst hg; exact hr) (by simp) (by simp [ha]) rfl (fun acc => by
    show (h ++ _)[a]? = _
    rw [List.getElem?_append_left (List.getElem?_eq_some_iff.mp ha).1]; exact ha)
  exact ⟨b, e, by simpa using hb⟩
/-- a told tuple of right numbers -/
theorem right_ok {vs : List Int} {fs : List Fact} {h : Hh} {n : Nat} (hr : ∀ f ∈ fs, Fits n f) (hl : fs.length ≤ 16777216) (hn : n ≤ 1000) (h1 : vs.length = n) (h0 : vs.head? = some 0) (hs : ∀ f ∈ fs, Sat (val vs) f) :
    m__law_right_numbers [.d (encV vs), .d (encFs fs), .d (.int (n : Int))] h = .ok (.bool true) h := by
  obtain ⟨b, e, hb⟩ := fit_tup (vs := vs) (fs := fs) (h := h) (by rw [h1]; exact hr) hl
  have hb := hb.mpr hs
  subst hb
  obtain ⟨ws, rfl⟩ : ∃ ws, vs = 0 :: ws := by
    cases vs with
    | nil => cases h0
    | cons x ws => simp at h0; subst h0; exact ⟨ws, rfl⟩
  have i0 : opIx (.d (encV (0 :: ws))) (.d (.int 0)) h = some (.int 0, h) := by
    have := ix_V (vs := 0 :: ws) (u := 0) (M := h) (by simp)
    simpa [val] using this
  have ec := eComp_pure (i := iSeq (eVar 0)) (vs := [3]) (g := .nm 3) (t := tOr (tNot (tVal (eOp1 (isI "int") (eVar 3)))) (tVal (eOp1 (isI "bool") (eVar 3)))) (e := eVar 3) (L := [some (.d (encV (0 :: ws))), some (.d (encFs fs)), some (.int n), none]) (h0 := h) (h := h)
    (enc := W.int) (s := .tp ((0 :: ws).map W.int)) (fun _ => false) W.int (0 :: ws) (by simp [encV, W.items]) rfl (fun _ => trivial) (by simp [sizeMax] at h1 ⊢; omega)
    (fun u hu => ⟨[some (.d (encV (0 :: ws))), some (.d (encFs fs)), some (.int n), some (.int u)], rfl, fun acc => ⟨by simp [isI, tyW], fun q => (Bool.false_ne_true q).elim⟩⟩)
  have ef : (0 :: ws).filter (fun _ => false) = [] := List.filter_eq_nil_iff.mpr fun _ _ => Bool.false_ne_true
  rw [ef] at ec
  have eg : eGc (eOp2 opEq (eComp (iSeq (eVar 0)) [3] (.nm 3) (tOr (tNot (tVal (eOp1 (isI "int") (eVar 3)))) (tVal (eOp1 (isI "bool") (eVar 3)))) (eVar 3)) (eLst aNil)) [some (.d (encV (0 :: ws))), some (.d (encFs fs)), some (.int n), none] h = .ok (.bool true) h := by
    refine eGc_ok (h' := h ++ [.lst [], .lst []]) ?_ (by simp) List.take_left
    have q := eq_nil (xs := []) (a := h.length) (b := h.length + 1) (M := h ++ [.lst [], .lst []]) get2_0 get2_1
    have a1 : (h ++ [O.lst []]) ++ [.lst []] = h ++ [.lst [], .lst []] := by simp
    have a2 : (h ++ [O.lst []]).length = h.length + 1 := by simp
    rw [eOp2_eq, ec]
    simp only [R.bind_ok, eLst_eq, aNil_eq, List.length_nil, Nat.zero_le, if_true, List.map_nil, a1, a2]
    rw [show opEq = opEqB false from rfl, q]
    rfl
  have bl : bLen [.d (encV (0 :: ws))] h = some (.int n, h) := by simp [bLen, encV, W.items] at h1 ⊢; omega
  have ty : tyW h (.d (encV (0 :: ws))) = some "tuple" := rfl
  simp [m__law_right_numbers, fn, b__law_right_numbers, isI, ty, bl, i0, eg, e]
end Sp
end

section
/-! Sq00: the law k00: all rows. -/
namespace Sp
open Mi Sem BF
open PySem (PyData Str)
/-- -9 .. 9 -/
def nine : List Int := (List.range 19).map fun (i : Nat) => -9 + (i : Int)
theorem mem_nine {x : Int} : x ∈ nine ↔ -9 ≤ x ∧ x ≤ 9 := by
  unfold nine
  simp only [List.mem_map, List.mem_range]
  constructor
  · rintro ⟨i, hi, rfl⟩; omega
  · rintro ⟨a, b⟩; exact ⟨(x + 9).toNat, by omega, by omega⟩
def flat (rows : List (List Int)) : List (List Int) := rows.flatMap fun r => nine.map fun x => r ++ [x]
def rowsN : Nat → List (List Int)
  | 0 => [[0]]
  | k + 1 => flat (rowsN k)
theorem flat_len (rows : List (List Int)) : (flat rows).length = 19 * rows.length := by
  unfold flat
  induction rows with
  | nil => rfl
  | cons r rows ih => rw [List.flatMap_cons, List.length_append, ih, List.length_map, List.length_cons]; simp [nine]; omega
theorem mem_rowsN : ∀ {k : Nat} {r : List Int}, r ∈ rowsN k ↔ r.length = k + 1 ∧ r.head? = some 0 ∧ ∀ x ∈ r, -9 ≤ x ∧ x ≤ 9
  | 0, r => by
    simp only [rowsN, List.mem_singleton]
    constructor
    · rintro rfl; simp
    · rintro ⟨a, b, _⟩
      match r, a, b with
      | [x], _, b => simp at b; rw [b]
  | k + 1, r => by
    simp only [rowsN, flat, List.mem_flatMap, List.mem_map]
    constructor
    · rintro ⟨q, hq, x, hx, rfl⟩
      obtain ⟨a, b, c⟩ := mem_rowsN.mp hq
      refine ⟨by simp [a], ?_, fun y hy => ?_⟩
      · cases q with
        | nil => cases b
        | cons _ _ => exact b
      · rcases List.mem_append.mp hy with hy | hy
        · exact c y hy
        · simp at hy; subst hy; exact mem_nine.mp hx
    · rintro ⟨a, b, c⟩
      have ne : r ≠ [] := fun e => by rw [e] at a; simp at a
      have e := List.dropLast_concat_getLast ne
      refine ⟨r.dropLast, mem_rowsN.mpr ⟨by simp [a], ?_, fun x hx => c x (List.dropLast_subset r hx)⟩, r.getLast ne, mem_nine.mpr (c _ (List.getLast_mem ne)), e⟩
      match r, a, b with
      | x :: y :: r, _, b => exact b
def wV (rows : List (List Int)) : List W := rows.map fun r => W.d (encV r)
theorem snoc_V (r : List Int) (x : Int) (M : Hh) (h : r.length < 1000) : opAdd (.d (encV r)) (.d (.tuple [.int x])) M = some (.d (encV (r ++ [x])), M) := by
  have e : mkTup ((r.map PyData.int).map W.d ++ [W.int x]) = .d (encV (r ++ [x])) := by
    rw [show (r.map PyData.int).map W.d ++ [W.int x] = ((r ++ [x]).map PyData.int).map W.d by simp, mkTup_map]; rfl
  show (match (W.d (encV r)).items, (W.d (.tuple [.int x])).items with | some xs, some ys => if xs.length + ys.length ≤ sizeMax then some (mkTup (xs ++ ys), M) else none | _, _ => none) = _
  simp only [encV, W.items, List.map_cons, List.map_nil, e, List.length_map, List.length_cons, List.length_nil, sizeMax]
  rw [if_pos (by omega)]
theorem add_lst {xs ys : List W} {a b : Nat} {M : Hh} (ha : M[a]? = some (.lst xs)) (hb : M[b]? = some (.lst ys)) (h : xs.length + ys.length ≤ 16777216) : opAdd (.ref a) (.ref b) M = some (.ref M.length, M ++ [.lst (xs ++ ys)]) := by
  simp [opAdd, ha, hb, sizeMax, h]
theorem keep {M T : Hh} {a : Nat} {o : O} (h : M[a]? = some o) : (M ++ T)[a]? = some o := by
  rw [List.getElem?_append_left (List.getElem?_eq_some_iff.mp h).1]; exact h
theorem app_at {M : Hh} {x : O} : (M ++ [x])[M.length]? = some x := by simp
def Lr (m : Int) (rows : Nat) (x3 x4 x5 x6 : Option W) : Loc := [some (.int m), some (.int 9), some (.ref rows), x3, x4, x5, x6]
theorem l1_rows_ok {m : Int} {a b : Nat} {x3 x6 : Option W} {r : List Int} {acc : List (List Int)} {M : Hh} (hr : r.length < 1000) (ha : acc.length ≤ 10000) (hb : M[b]? = some (.lst (wV acc))) :
    ∃ b' T, l1__law_all_rows (Lr m a x3 (some (.ref b)) (some (.d (encV r))) x6) M = .nx (Lr m a x3 (some (.ref b')) (some (.d (encV r))) x6) (M ++ T) ∧ (M ++ T)[b']? = some (.lst (wV (acc ++ nine.map fun x => r ++ [x]))) ∧ M.length ≤ b' := by
  have ec := eComp_pure (i := iRange2 (eOp2 opSub (eCon (.int 0)) (eVar 1)) (eOp2 opAdd (eVar 1) (eCon (.int 1)))) (vs := [6]) (g := .nm 6) (t := tYes) (e := eOp2 opAdd (eVar 5) (eTup (aCons (eVar 6) aNil))) (L := Lr m a x3 (some (.ref b)) (some (.d (encV r))) x6) (h0 := M) (h := M)
    (enc := W.int) (s := .rg (-9) 19) (fun _ => true) (fun x => W.d (encV (r ++ [x]))) nine (by simp [Lr]) (by simp [Src.items, rgItems, nine]) (fun _ => trivial) (by simp [nine, sizeMax])
    (fun x hx => ⟨Lr m a x3 (some (.ref b)) (some (.d (encV r))) (some (.int x)), rfl, fun acc => ⟨rfl, fun _ => by
      have e0 : mkTup [.d (.int x)] = .d (.tuple [.int x]) := rfl
      simp only [eOp2_eq, eVar_eq, Lr, List.getElem?_cons_succ, List.getElem?_cons_zero, R.bind_ok, eTup_eq, aCons_eq, aNil_eq, List.length_cons, List.length_nil, sizeMax, Nat.reduceAdd, Nat.reduceLeDiff, if_true, e0, snoc_V r x _ hr, R.of_some]⟩⟩)
  rw [filter_true] at ec
  have e9 : nine.length = 19 := by simp [nine]
  have ea := add_lst (M := M ++ [.lst (nine.map fun x => W.d (encV (r ++ [x])))]) (keep hb) app_at (by simp [wV, e9]; omega)
  refine ⟨M.length + 1, [.lst (nine.map fun x => W.d (encV (r ++ [x]))), .lst (wV acc ++ nine.map fun x => W.d (encV (r ++ [x])))], ?_, ?_, by omega⟩
  · simp only [Lr] at ec ⊢
    rw [l1__law_all_rows, sCons_eq, sAsg_eq, eOp2_eq, eVar_eq]
    simp only [ec, List.getElem?_cons_succ, List.getElem?_cons_zero, R.bind_ok, ea, R.of_some, R.then_ok, put_nm, Out.seq_nx, sNil_eq, List.set_cons_succ, List.set_cons_zero]
    simp
  · rw [app_get]; simp [wV]
theorem l0_rows_ok {m : Int} {a : Nat} {x3 x4 x5 x6 : Option W} {rows : List (List Int)} {M : Hh} (hr : ∀ r ∈ rows, r.length < 1000) (hl : rows.length ≤ 400) (ha : M[a]? = some (.lst (wV rows))) :
    ∃ b T y4 y5, l0__law_all_rows (Lr m a x3 x4 x5 x6) M = .nx (Lr m b x3 y4 y5 x6) (M ++ T) ∧ (M ++ T)[b]? = some (.lst (wV (flat rows))) ∧ M.length ≤ b := by
  obtain ⟨L2, h2, e, b, T, y5, rfl, rfl, hb, hbl⟩ := forL_all (ok := (Src.ls a (wV rows)).ok) (g := .nm 5) (body := l1__law_all_rows) (enc := fun r => W.d (encV r)) (xs := rows)
    (fun pre L h' => ∃ b T y5, L = Lr m a x3 (some (.ref b)) y5 x6 ∧ h' = M ++ T ∧ (M ++ T)[b]? = some (.lst (wV (flat pre))) ∧ M.length ≤ b) (fun pre L h' ⟨b, T, y5, _, e, _⟩ => by rw [e]; exact keep ha)
    (fun pre r post L h' hx ⟨b, T, y5, e1, e2, hb, hbl⟩ => by
      subst e1 e2
      have hp : pre.length ≤ 400 := by have := congrArg List.length hx; simp at this; omega
      obtain ⟨b', T', e, hb', hbl'⟩ := l1_rows_ok (m := m) (a := a) (x3 := x3) (x6 := x6) (r := r) (hr r (by rw [hx]; simp)) (by rw [flat_len]; omega) hb
      exact ⟨Lr m a x3 (some (.ref b)) (some (.d (encV r))) x6, rfl, _, _, .inl e, b', T ++ T', _, rfl, by simp, by
        rw [← List.append_assoc, hb']; simp [flat], by simp at hbl'; omega⟩)
    (L := Lr m a x3 (some (.ref M.length)) x5 x6) (h := M ++ [.lst []]) ⟨M.length, [.lst []], x5, rfl, rfl, by rw [app_at]; rfl, Nat.le_refl _⟩
  refine ⟨b, T, some (.ref b), y5, ?_, hb, hbl⟩
  have hi : iSeq (eVar 2) (Lr m a x3 (some (.ref M.length)) x5 x6) (M ++ [.lst []]) = .ok (.ls a (wV rows)) (M ++ [.lst []]) := by
    simp only [iSeq_eq, eVar_eq, Lr, List.getElem?_cons_succ, List.getElem?_cons_zero, R.bind_ok, keep (T := [O.lst []]) ha]
  have e0 : (sAsg (.nm 4) (eLst aNil)) (Lr m a x3 x4 x5 x6) M = .nx (Lr m a x3 (some (.ref M.length)) x5 x6) (M ++ [.lst []]) := by simp [Lr]
  rw [l0__law_all_rows, sCons_eq, e0, Out.seq_nx, sCons_eq, sFor_eq, hi, R.then_ok, items_ls]
  rw [show wV rows = rows.map fun r => W.d (encV r) from rfl] at e ⊢
  rw [e, Out.seq_nx]
  simp [Lr]
theorem all_rows_ok {n : Nat} {h : Hh} (h0 : 0 < n) (hn : n ≤ 4) : ∃ a T, m__law_all_rows [.d (.int (n : Int)), .d (.int 9)] h = .ok (.ref a) (h ++ T) ∧ (h ++ T)[a]? = some (.lst (wV (rowsN (n - 1)))) ∧ h.length ≤ a := by
  obtain ⟨L2, h2, e, b, T, x3, x4, x5, rfl, rfl, hb, hbl⟩ := forL_num (ok := (Src.rg 0 (n - 1)).ok) (g := .nm 3) (body := l0__law_all_rows) (n := n - 1)
    (fun k L h' => ∃ b T, ∃ x3 x4 x5 : Option W, L = Lr n b x3 x4 x5 none ∧ h' = h ++ T ∧ (h ++ T)[b]? = some (.lst (wV (rowsN k))) ∧ h.length ≤ b) (fun _ _ _ _ => trivial)
    (fun k L h' hk ⟨b, T, x3, x4, x5, e1, e2, hb, hbl⟩ => by
      subst e1 e2
      have hlen : (rowsN k).length ≤ 400 := by
        match k, (show k < 3 by omega) with
        | 0, _ => simp [rowsN]
        | 1, _ => simp [rowsN, flat_len]
        | 2, _ => simp [rowsN, flat_len]
      obtain ⟨b', T', y4, y5, e, hb', hbl'⟩ := l0_rows_ok (m := n) (a := b) (x3 := some (.int (k : Int))) (x4 := x4) (x5 := x5) (x6 := none) (rows := rowsN k) (M := h ++ T) (fun r hr => by have := (mem_rowsN.mp hr).1; omega) hlen hb
      refine ⟨Lr n b (some (.int (k : Int))) x4 x5 none, rfl, _, _, .inl e, b', T ++ T', _, _, _, rfl, by simp, by rw [← List.append_assoc]; exact hb', by simp at hbl'; omega⟩)
    (L := Lr n h.length none none none none) (h := h ++ [.lst [.d (.tuple [.int 0])]]) ⟨h.length, [.lst [.d (.tuple [.int 0])]], none, none, none, rfl, rfl, by rw [app_at]; rfl, Nat.le_refl _⟩
  refine ⟨b, T, ?_, hb, hbl⟩
  have e0 : mkTup [.int 0] = .d (.tuple [.int 0]) := rfl
  have e1 : (sAsg (.nm 2) (eLst (aCons (eTup (aCons (eCon (.int 0)) aNil)) aNil))) [some (.int n), some (.int 9), none, none, none, none, none] h = .nx (Lr n h.length none none none none) (h ++ [.lst [.d (.tuple [.int 0])]]) := by
    simp [e0, sizeMax, Lr]
  have hi : iRange1 (eOp2 opSub (eVar 0) (eCon (.int 1))) (Lr n h.length none none none none) (h ++ [.lst [.d (.tuple [.int 0])]]) = .ok (.rg 0 (n - 1)) (h ++ [.lst [.d (.tuple [.int 0])]]) := by
    simp [Lr]
    omega
  simp only [m__law_all_rows, fn, b__law_all_rows, List.length_cons, List.length_nil, if_true, List.map_cons, List.map_nil, List.replicate, List.cons_append, List.nil_append, Nat.reduceAdd, Nat.reduceSub]
  rw [sCons_eq, e1, Out.seq_nx, sCons_eq, sFor_eq, hi, R.then_ok, items_rg, e]
  simp [Lr, gc, hbl]
  omega
end Sp
end

section
/-! Sr00: the law k00: sums by squares. -/
namespace BF
/-- least sums of two parts -/
def mins (n : Nat) (f : Nat → Int) : Int := (List.range (n - 1)).foldl (fun a k => min a (f (k + 1))) (f 0)
theorem foldl_min (xs : List Nat) (f : Nat → Int) : ∀ a, (xs.foldl (fun a k => min a (f k)) a ≤ a ∧ ∀ k ∈ xs, xs.foldl (fun a k => min a (f k)) a ≤ f k) ∧ (xs.foldl (fun a k => min a (f k)) a = a ∨ ∃ k ∈ xs, xs.foldl (fun a k => min a (f k)) a = f k) := by
  induction xs with
  | nil => intro a; exact ⟨⟨by simp, fun k hk => by cases hk⟩, .inl rfl⟩
  | cons x xs ih =>
    intro a
    obtain ⟨⟨h1, h2⟩, h3⟩ := ih (min a (f x))
    rw [List.foldl_cons]
    refine ⟨⟨by omega, fun k hk => ?_⟩, ?_⟩
    · rcases List.mem_cons.mp hk with rfl | hk
      · omega
      · exact h2 k hk
    · rcases h3 with h3 | ⟨k, hk, h3⟩
      · rw [h3]
        by_cases hm : a ≤ f x
        · left; omega
        · exact .inr ⟨x, List.mem_cons_self, by omega⟩
      · exact .inr ⟨k, List.mem_cons_of_mem _ hk, h3⟩
theorem mins_le {n : Nat} {f : Nat → Int} {k : Nat} (hk : k < n) : mins n f ≤ f k := by
  obtain ⟨⟨h1, h2⟩, _⟩ := foldl_min (List.range (n - 1)) (fun k => f (k + 1)) (f 0)
  cases k with
  | zero => exact h1
  | succ k => exact h2 k (List.mem_range.mpr (by omega))
theorem mins_eq {n : Nat} {f : Nat → Int} (hn : 0 < n) : ∃ k, k < n ∧ mins n f = f k := by
  obtain ⟨_, h3⟩ := foldl_min (List.range (n - 1)) (fun k => f (k + 1)) (f 0)
  rcases h3 with h3 | ⟨k, hk, h3⟩
  · exact ⟨0, hn, h3⟩
  · exact ⟨k + 1, by rw [List.mem_range] at hk; omega, h3⟩
abbrev Mat := Nat → Nat → Int
def far : Int := 1000000000000000
def mat0 : Mat := fun i j => if i = j then 0 else far
def put2 (D : Mat) (i j : Nat) (v : Int) : Mat := fun a b => if a = i ∧ b = j then v else D a b
def matF (fs : List Fact) : Mat := fs.foldl (fun D f => put2 D f.1.toNat f.2.1.toNat (min (D f.1.toNat f.2.1.toNat) f.2.2)) mat0
def sq (n : Nat) (D : Mat) : Mat := fun i j => mins n fun k => D i k + D k j
def sqN (n : Nat) (D : Mat) : Nat → Mat
  | 0 => D
  | t + 1 => sq n (sqN n D t)
theorem sqN_succ (n : Nat) (D : Mat) (t i j : Nat) : sqN n D (t + 1) i j = mins n (fun k => sqN n D t i k + sqN n D t k j) := rfl
theorem matF_spec {fs : List Fact} : ∀ i j : Nat, (∀ f ∈ fs, f.1.toNat = i → f.2.1.toNat = j → matF fs i j ≤ f.2.2) ∧ matF fs i j ≤ mat0 i j ∧ (matF fs i j = mat0 i j ∨ ∃ f ∈ fs, f.1.toNat = i ∧ f.2.1.toNat = j ∧ matF fs i j = f.2.2) := by
  have go : ∀ (fs : List Fact) (D : Mat) (i j : Nat), (∀ f ∈ fs, f.1.toNat = i → f.2.1.toNat = j → fs.foldl (fun D f => put2 D f.1.toNat f.2.1.toNat (min (D f.1.toNat f.2.1.toNat) f.2.2)) D i j ≤ f.2.2) ∧
      fs.foldl (fun D f => put2 D f.1.toNat f.2.1.toNat (min (D f.1.toNat f.2.1.toNat) f.2.2)) D i j ≤ D i j ∧
      (fs.foldl (fun D f => put2 D f.1.toNat f.2.1.toNat (min (D f.1.toNat f.2.1.toNat) f.2.2)) D i j = D i j ∨ ∃ f ∈ fs, f.1.toNat = i ∧ f.2.1.toNat = j ∧ fs.foldl (fun D f => put2 D f.1.toNat f.2.1.toNat (min (D f.1.toNat f.2.1.toNat) f.2.2)) D i j = f.2.2) := by
    intro fs
    induction fs with
    | nil => intro D i j; exact ⟨(fun f hf => by cases hf), Int.le_refl _, .inl rfl⟩
    | cons g fs ih =>
      intro D i j
      obtain ⟨h1, h2, h3⟩ := ih (put2 D g.1.toNat g.2.1.toNat (min (D g.1.toNat g.2.1.toNat) g.2.2)) i j
      rw [List.foldl_cons]
      generalize fs.foldl (fun D f => put2 D f.1.toNat f.2.1.toNat (min (D f.1.toNat f.2.1.toNat) f.2.2)) (put2 D g.1.toNat g.2.1.toNat (min (D g.1.toNat g.2.1.toNat) g.2.2)) i j = v at h1 h2 h3
      unfold put2 at h2 h3
      by_cases hg : i = g.1.toNat ∧ j = g.2.1.toNat
      · rw [if_pos hg] at h2 h3
        obtain ⟨rfl, rfl⟩ := hg
        refine ⟨fun f hf a b => ?_, by omega, ?_⟩
        · rcases List.mem_cons.mp hf with rfl | hf
          · exact Int.le_trans h2 (Int.min_le_right _ _)
          · exact h1 f hf a b
        · rcases h3 with h3 | ⟨f, hf, a, b, h3⟩
          · by_cases hm : D g.1.toNat g.2.1.toNat ≤ g.2.2
            · left; omega
            · exact .inr ⟨g, List.mem_cons_self, rfl, rfl, by omega⟩
          · exact .inr ⟨f, List.mem_cons_of_mem _ hf, a, b, h3⟩
      · rw [if_neg hg] at h2 h3
        refine ⟨fun f hf a b => ?_, h2, ?_⟩
        · rcases List.mem_cons.mp hf with rfl | hf
          · exact (hg ⟨a.symm, b.symm⟩).elim
          · exact h1 f hf a b
        · rcases h3 with h3 | ⟨f, hf, a, b, h3⟩
          · exact .inl h3
          · exact .inr ⟨f, List.mem_cons_of_mem _ hf, a, b, h3⟩
  exact fun i j => go fs mat0 i j
/-- facts with names 0 .. n-1 -/
def In (n : Nat) (fs : List Fact) : Prop := ∀ f ∈ fs, (0 ≤ f.1 ∧ f.1 < n) ∧ 0 ≤ f.2.1 ∧ f.2.1 < n
theorem walk_in {n : Nat} {fs : List Fact} (h : In n fs) {u v s : Int} {ps : List Nat} (k : Walk fs u v ps s) : (0 ≤ u ∧ u < n) → 0 ≤ v ∧ v < n := by
  induction k with
  | nil => exact id
  | cons hf _ ih => exact fun _ => ih (h _ (List.mem_of_getElem? hf)).2
/-- no sum is above that of a walk of so many facts -/
theorem sq_le {n : Nat} {fs : List Fact} (h : In n fs) : ∀ (t : Nat) {u v s : Int} {ps : List Nat}, (0 ≤ u ∧ u < n) → Walk fs u v ps s → ps.length ≤ 2 ^ t → sqN n (matF fs) t u.toNat v.toNat ≤ s
  | 0, u, v, s, ps, hu, k, hl => by
    obtain ⟨m1, m2, _⟩ := matF_spec (fs := fs) u.toNat v.toNat
    show matF fs _ _ ≤ s
    cases k with
    | nil => simp [mat0] at m2; exact m2
    | cons hf k =>
      cases k with
      | nil =>
        have := m1 _ (List.mem_of_getElem? hf) rfl rfl
        simp only at this; omega
      | cons _ _ => simp at hl
  | t + 1, u, v, s, ps, hu, k, hl => by
    have e := List.take_append_drop (2 ^ t) ps
    rw [← e] at k
    obtain ⟨w, s1, s2, k1, k2, rfl⟩ := k.split
    have hw := walk_in h k1 hu
    have l1 : (ps.take (2 ^ t)).length ≤ 2 ^ t := by simp; omega
    have l2 : (ps.drop (2 ^ t)).length ≤ 2 ^ t := by simp [Nat.pow_succ] at hl ⊢; omega
    have a1 := sq_le h t hu k1 l1
    have a2 := sq_le h t hw k2 l2
    have := mins_le (n := n) (f := fun k => sqN n (matF fs) t u.toNat k + sqN n (matF fs) t k v.toNat) (k := w.toNat) (by omega)
    rw [sqN_succ]
    omega
theorem walk_low {fs : List Fact} {b : Int} (hb : ∀ f ∈ fs, -b ≤ f.2.2) {u v s : Int} {ps : List Nat} (k : Walk fs u v ps s) : -b * ps.length ≤ s := by
  induction k with
  | nil => simp
  | @cons u w v c s p ps hf _ ih =>
    have := hb _ (List.mem_of_getElem? hf)
    simp only at this
    rw [List.length_cons, Int.natCast_add, Int.mul_add]
    simp only [Int.cast_ofNat_Int, Int.mul_one]
    omega
/-- a sum that is not far is one of a walk -/
theorem sq_walk {n : Nat} {fs : List Fact} (h : In n fs) (hn : 0 < n) (hb : ∀ f ∈ fs, -10000000 ≤ f.2.2) : ∀ (t : Nat), t ≤ 6 → ∀ i j : Nat, i < n → j < n →
    (∃ ps, Walk fs i j ps (sqN n (matF fs) t i j) ∧ ps.length ≤ 2 ^ t) ∨ far - 2 ^ t * 10000000 ≤ sqN n (matF fs) t i j
  | 0, _, i, j, hi, hj => by
    obtain ⟨_, _, m3⟩ := matF_spec (fs := fs) i j
    show (∃ ps, Walk fs i j ps (matF fs i j) ∧ _) ∨ _ ≤ matF fs i j
    rcases m3 with m3 | ⟨f, hf, a, b, m3⟩
    · rw [m3]
      by_cases e : i = j
      · subst e
        simp only [mat0, if_true]
        exact .inl ⟨[], .nil _, by simp⟩
      · simp only [mat0, e, if_false]; exact .inr (by simp [far])
    · left
      obtain ⟨p, hp⟩ := List.mem_iff_getElem?.mp hf
      obtain ⟨h1, h2⟩ := h f hf
      obtain ⟨fi, fj, fc⟩ := f
      simp only at a b h1 h2 m3
      have e1 : fi = (i : Int) := by omega
      have e2 : fj = (j : Int) := by omega
      subst e1 e2
      rw [m3]
      refine ⟨[p], ?_, by simp⟩
      have := Walk.cons hp (.nil (j : Int))
      simpa using this
  | t + 1, ht, i, j, hi, hj => by
    obtain ⟨k, hk, e⟩ := mins_eq (n := n) (f := fun k => sqN n (matF fs) t i k + sqN n (matF fs) t k j) hn
    rw [sqN_succ, e]
    have p2 : (2 : Nat) ^ (t + 1) = 2 ^ t + 2 ^ t := by rw [Nat.pow_succ]; omega
    have p3 : (2 : Int) ^ (t + 1) = 2 ^ t + 2 ^ t := by rw [Int.pow_succ]; omega
    have small : (2 : Int) ^ t ≤ 64 := by
      match t, ht with
      | 0, _ => decide
      | 1, _ => decide
      | 2, _ => decide
      | 3, _ => decide
      | 4, _ => decide
      | 5, _ => decide
    have cast : ((2 ^ t : Nat) : Int) = (2 : Int) ^ t := by simp
    have low : ∀ (u v s : Int) (ps : List Nat), Walk fs u v ps s → ps.length ≤ 2 ^ t → -10000000 * (2 : Int) ^ t ≤ s := fun u v s ps k hl => by
      have h1 := walk_low (b := 10000000) hb k
      have h2 : (ps.length : Int) ≤ (2 : Int) ^ t := by rw [← cast]; exact Int.ofNat_le.mpr hl
      omega
    rw [p3]
    generalize hP : (2 : Int) ^ t = P at *
    rcases sq_walk h hn hb t (by omega) i k hi hk with ⟨ps1, k1, l1⟩ | f1 <;> rcases sq_walk h hn hb t (by omega) k j hk hj with ⟨ps2, k2, l2⟩ | f2
    · exact .inl ⟨ps1 ++ ps2, k1.append k2, by rw [List.length_append]; omega⟩
    · right
      have := low _ _ _ _ k1 l1
      simp only [hP] at f2
      omega
    · right
      have := low _ _ _ _ k2 l2
      simp only [hP] at f1
      omega
    · right
      simp only [hP] at f1 f2
      unfold far at *
      omega
end BF
end

section
/-! Ss00: the law k00: _law_sums. -/
namespace Sp
open Mi Sem BF
open PySem (PyData Str)
/-- a list of q lists behind h0 -/
def PH (h0 : Hh) (q : Nat) (F : Nat → List W) : Hh := h0 ++ O.lst ((List.range q).map fun i => W.ref (h0.length + 1 + i)) :: (List.range q).map fun i => O.lst (F i)
theorem PH_len (h0 : Hh) (q : Nat) (F : Nat → List W) : (PH h0 q F).length = h0.length + 1 + q := by simp [PH]; omega
theorem PH_top (h0 : Hh) (q : Nat) (F : Nat → List W) (T : Hh) : (PH h0 q F ++ T)[h0.length]? = some (.lst ((List.range q).map fun i => W.ref (h0.length + 1 + i))) := by
  unfold PH; rw [List.append_assoc, app_get0]; rfl
theorem PH_row {h0 : Hh} {q i : Nat} {F : Nat → List W} {T : Hh} (hi : i < q) : (PH h0 q F ++ T)[h0.length + 1 + i]? = some (.lst (F i)) := by
  unfold PH
  rw [List.append_assoc, Nat.add_assoc, app_get, List.cons_append, Nat.add_comm 1 i, List.getElem?_cons_succ, List.getElem?_append_left (by simpa using hi)]
  simp [hi]
theorem PH_set {h0 : Hh} {q i : Nat} {F : Nat → List W} {y : List W} (hi : i < q) : (PH h0 q F).set (h0.length + 1 + i) (.lst y) = PH h0 q (fun a => if a = i then y else F a) := by
  unfold PH
  rw [Nat.add_assoc, app_set, Nat.add_comm 1 i, List.set_cons_succ]
  congr 2
  refine List.ext_getElem? fun k => ?_
  rw [List.getElem?_set]
  by_cases hk : i = k
  · subst hk; simp [hi]
  · simp only [hk, if_false]
    by_cases hq : k < q
    · have : ¬ k = i := fun e => hk e.symm
      simp [hq, this]
    · simp [hq]
theorem PH_snoc {h0 : Hh} {q : Nat} {F : Nat → List W} : (PH h0 q F ++ [O.lst (F q)]).set h0.length (.lst (((List.range q).map fun i => W.ref (h0.length + 1 + i)) ++ [W.ref (h0.length + 1 + q)])) = PH h0 (q + 1) F := by
  unfold PH
  rw [List.append_assoc, app_set0]
  simp [List.range_succ]
theorem ix_PH {h0 : Hh} {q i : Nat} {F : Nat → List W} {T : Hh} (hi : i < q) : opIx (.ref h0.length) (.d (.int (i : Int))) (PH h0 q F ++ T) = some (.ref (h0.length + 1 + i), PH h0 q F ++ T) :=
  opIx_lst (PH_top h0 q F T) (by simp [hi])
theorem ix_PH2 {h0 : Hh} {q i j : Nat} {F : Nat → List W} {T : Hh} {w : W} (hi : i < q) (hj : (F i)[j]? = some w) : opIx (.ref (h0.length + 1 + i)) (.d (.int (j : Int))) (PH h0 q F ++ T) = some (w, PH h0 q F ++ T) :=
  opIx_lst (PH_row hi) hj
/-- a comprehension whose elements are new lists -/
theorem eComp_rows {i : IM} {vs : List Nat} {g : Tg} {e : EM} {L : Loc} {h0 : Hh} {n : Nat} (F : Nat → List W) (hi : i L h0 = .ok (.rg 0 n) h0) (hn : n ≤ 16777216)
    (hx : ∀ q, q < n → ∃ L1, g.put (.int (q : Int)) (wipeL L vs) = some L1 ∧ e L1 (PH h0 q F) = .ok (.ref (PH h0 q F).length) (PH h0 q F ++ [.lst (F q)])) :
    eComp i vs g tYes e L h0 = .ok (.ref h0.length) (PH h0 n F) := by
  have go : ∀ (m q : Nat), q + m = n → compL (Src.rg 0 n).ok vs g (fun L h => noEx (tYes L h)) (fun L h => noEx (e L h)) h0.length L ((List.range' q m).map fun (i : Nat) => W.int (i : Int)) (PH h0 q F) = .ok (.ref h0.length) (PH h0 n F) := by
    intro m
    induction m with
    | zero =>
      intro q e
      have : q = n := by omega
      subst this
      simp [compL]
    | succ m ih =>
      intro q e1
      obtain ⟨L1, hp, he⟩ := hx q (by omega)
      have hD := PH_top h0 q F [.lst (F q)]
      rw [List.range'_succ, List.map_cons, compL, if_pos (show (Src.rg 0 n).ok _ from trivial), hp]
      simp only [tYes_eq, noEx_ok, R.bind_ok, if_true, he, hD, PH_len]
      rw [if_pos (by simp [sizeMax]; omega), PH_snoc]
      have ih' := ih (q + 1) (by omega)
      simp only [tYes_eq, noEx_ok] at ih'
      exact ih'
  have e0 : (Src.rg 0 n).items = (List.range' 0 n).map fun (i : Nat) => W.int (i : Int) := by
    simp [Src.items, rgItems, List.range_eq_range']
  rw [eComp_eq, hi, R.bind_ok, e0]
  exact go n 0 (by omega)
def rowD (n : Nat) (D : Mat) (i : Nat) : List W := (List.range n).map fun j => W.int (D i j)
theorem rowD_get {n : Nat} {D : Mat} {i j : Nat} (hj : j < n) : (rowD n D i)[j]? = some (W.int (D i j)) := by simp [rowD, hj]
theorem minI_range {n : Nat} {f : Nat → Int} (hn : 0 < n) : minI ((List.range n).map f) = some (mins n f) := by
  obtain ⟨k, rfl⟩ : ∃ k, n = k + 1 := ⟨n - 1, by omega⟩
  rw [List.range_succ_eq_map, List.map_cons, List.map_map]
  simp only [minI, mins, Nat.add_sub_cancel, List.foldl_map, Function.comp_def, Nat.succ_eq_add_one]
theorem mapM_intW (xs : List Int) : (xs.map W.int).mapM intW = some xs := by
  induction xs with
  | nil => rfl
  | cons x xs ih => rw [List.map_cons, List.mapM_cons, ih]; rfl
theorem min_lst {n : Nat} {f : Nat → Int} {a : Nat} {M : Hh} (hn : 0 < n) (h : M[a]? = some (.lst ((List.range n).map fun k => W.int (f k)))) : bMin [.ref a] M = some (.int (mins n f), M) := by
  have e : ((List.range n).map fun k => W.int (f k)) = ((List.range n).map f).map W.int := by simp
  rw [e] at h
  simp only [bMin, h, mapM_intW, Option.bind_some, minI_range hn, Option.map_some]
@[simp] theorem min_two (i j : Int) (M : Hh) : bMin [.d (.int i), .d (.int j)] M = some (.int (min i j), M) := (rfl)
@[simp] theorem bInt_bool (b : Bool) (M : Hh) : bInt [.d (.bool b)] M = some (.int (if b then 1 else 0), M) := (rfl)
def Ls (fs : List Fact) (n : Nat) (s3 s4 s5 s6 s7 s8 s9 : Option W) : Loc := [some (.d (encFs fs)), some (.int n), some (.int far), s3, s4, s5, s6, s7, s8, s9]
theorem rg_ok {fs : List Fact} {n : Nat} {s3 s4 s5 s6 s7 s8 s9 : Option W} {M : Hh} (hn : n < 1000) : iRange1 (eVar 1) (Ls fs n s3 s4 s5 s6 s7 s8 s9) M = .ok (.rg 0 n) M := by simp [Ls]; omega
/-- the first table -/
theorem sums_init {fs : List Fact} {n : Nat} {h : Hh} (hn : n < 1000) :
    eComp (iRange1 (eVar 1)) [5] (.nm 5) tYes (eComp (iRange1 (eVar 1)) [4] (.nm 4) tYes (eGc (eOp2 opIx (eLst (aCons (eVar 2) (aCons (eCon (.int 0)) aNil))) (eOpN bInt (aCons (eOp2 opEq (eVar 5) (eVar 4)) aNil))))) (Ls fs n none none none none none none none) h = .ok (.ref h.length) (PH h n (rowD n mat0)) := by
  refine eComp_rows (rowD n mat0) (rg_ok hn) (by omega) fun q hq => ⟨Ls fs n none none (some (.int (q : Int))) none none none none, rfl, ?_⟩
  have ec := eComp_pure (i := iRange1 (eVar 1)) (vs := [4]) (g := .nm 4) (t := tYes) (e := eGc (eOp2 opIx (eLst (aCons (eVar 2) (aCons (eCon (.int 0)) aNil))) (eOpN bInt (aCons (eOp2 opEq (eVar 5) (eVar 4)) aNil)))) (L := Ls fs n none none (some (.int (q : Int))) none none none none) (h0 := PH h q (rowD n mat0)) (h := PH h q (rowD n mat0))
    (enc := fun (i : Nat) => W.int (i : Int)) (s := .rg 0 n) (fun _ => true) (fun j => W.int (mat0 q j)) (List.range n) (rg_ok hn) (rg_items n) (fun _ => trivial) (by simp [sizeMax]; omega)
    (fun j hj => ⟨Ls fs n none (some (.int (j : Int))) (some (.int (q : Int))) none none none none, rfl, fun acc => ⟨rfl, fun _ => by
      generalize PH h q (rowD n mat0) ++ [O.lst acc] = M
      refine eGc_ok (h' := M ++ [.lst [.int far, .int 0]]) ?_ (by simp) List.take_left
      have g : (M ++ [O.lst [.int far, .int 0]])[M.length]? = some (.lst [.int far, .int 0]) := app_at
      by_cases e : q = j
      · have ix : opIx (.ref M.length) (.d (.int 1)) (M ++ [.lst [.int far, .int 0]]) = some (.int 0, M ++ [.lst [.int far, .int 0]]) := opIx_lst (n := 1) g rfl
        subst e
        simp [Ls, sizeMax, ix, mat0]
      · have ix : opIx (.ref M.length) (.d (.int 0)) (M ++ [.lst [.int far, .int 0]]) = some (.int far, M ++ [.lst [.int far, .int 0]]) := opIx_lst (n := 0) g rfl
        have e' : ¬ ((q : Int) = j) := by omega
        simp [Ls, sizeMax, e', ix, mat0, e]⟩⟩)
  rw [filter_true] at ec
  exact ec
/-- the facts put in -/
theorem sums_facts {fs : List Fact} {n : Nat} {h : Hh} (hf : ∀ f ∈ fs, Fits n f) : ∃ s4 s5 s6, forL (Src.tp (fs.map fun f => W.d (encF f))).ok (.tp [5, 4, 6]) l0__law_sums (fs.map fun f => W.d (encF f)) (Ls fs n (some (.ref h.length)) none none none none none none) (PH h n (rowD n mat0)) =
    .nx (Ls fs n (some (.ref h.length)) s4 s5 s6 none none none) (PH h n (rowD n (matF fs))) := by
  obtain ⟨L2, h2, e, s4, s5, s6, rfl, rfl⟩ := forL_all (ok := (Src.tp (fs.map fun f => W.d (encF f))).ok) (g := .tp [5, 4, 6]) (body := l0__law_sums) (enc := fun f => W.d (encF f)) (xs := fs)
    (fun pre L h' => ∃ s4 s5 s6, L = Ls fs n (some (.ref h.length)) s4 s5 s6 none none none ∧ h' = PH h n (rowD n (matF pre))) (fun _ _ _ _ => trivial)
    (fun pre f post L h' hx ⟨s4, s5, s6, e1, e2⟩ => by
      subst e1 e2
      obtain ⟨h1, h2⟩ := hf f (by rw [hx]; simp)
      obtain ⟨i, j, c⟩ := f
      simp only at h1 h2
      refine ⟨Ls fs n (some (.ref h.length)) (some (.int j)) (some (.int i)) (some (.int c)) none none none, rfl, Ls fs n (some (.ref h.length)) (some (.int j)) (some (.int i)) (some (.int c)) none none none, PH h n (rowD n (matF (pre ++ [(i, j, c)]))), .inl ?_, _, _, _, rfl, rfl⟩
      obtain ⟨i', rfl⟩ : ∃ i' : Nat, i = i' := ⟨i.toNat, by omega⟩
      obtain ⟨j', rfl⟩ : ∃ j' : Nat, j = j' := ⟨j.toNat, by omega⟩
      have hi : i' < n := by omega
      have hj : j' < n := by omega
      have x1 := ix_PH (h0 := h) (F := rowD n (matF pre)) (T := []) hi
      have x2 := ix_PH2 (h0 := h) (F := rowD n (matF pre)) (T := []) hi (rowD_get (D := matF pre) (i := i') hj)
      have g1 := PH_row (h0 := h) (F := rowD n (matF pre)) (T := []) hi
      rw [List.append_nil] at x1 x2 g1
      have st : setIx (.ref (h.length + 1 + i')) (.d (.int (j' : Int))) (W.int (min (matF pre i' j') c)) (PH h n (rowD n (matF pre))) = some (PH h n (rowD n (matF (pre ++ [((i' : Int), (j' : Int), c)])))) := by
        have hl : (rowD n (matF pre) i').length = n := by simp [rowD]
        have hx : ixN n (j' : Int) = some j' := by simp [ixN]; omega
        simp only [setIx, g1, hl, hx, Option.map_some, PH_set hi]
        congr 2
        funext a
        refine List.ext_getElem? fun b => ?_
        have e9 : matF (pre ++ [((i' : Int), (j' : Int), c)]) = put2 (matF pre) i' j' (min (matF pre i' j') c) := by simp [matF, List.foldl_append]
        rw [e9]
        by_cases ha : a = i'
        · subst ha
          simp only [if_true, List.getElem?_set]
          by_cases hb : j' = b
          · subst hb; simp [rowD, put2, hj]
          · by_cases hbn : b < n
            · have : ¬ b = j' := fun e => hb e.symm
              simp [rowD, put2, hb, hbn, this]
            · simp [rowD, hb, hbn]
        · simp only [ha, if_false]
          by_cases hbn : b < n
          · simp [rowD, put2, ha, hbn]
          · simp [rowD, hbn]
      simp only [l0__law_sums, sCons_eq, sSet_eq, eOpN_eq, aCons_eq, aNil_eq, eOp2_eq, eVar_eq, Ls, List.getElem?_cons_succ, List.getElem?_cons_zero, R.bind_ok, x1, x2, R.of_some, min_two, R.then_ok, st, Out.seq_nx, sNil_eq])
    (L := Ls fs n (some (.ref h.length)) none none none none none none) (h := PH h n (rowD n mat0)) ⟨none, none, none, rfl, rfl⟩
  exact ⟨s4, s5, s6, e⟩
/-- a square -/
theorem sums_sq {fs : List Fact} {n : Nat} {M0 T : Hh} {D : Mat} {s4 s5 s6 s7 s8 s9 : Option W} (h0 : 0 < n) (hn : n < 1000) :
    ∃ y5, l1__law_sums (Ls fs n (some (.ref M0.length)) s4 s5 s6 s7 s8 s9) (PH M0 n (rowD n D) ++ T) = .nx (Ls fs n (some (.ref (PH M0 n (rowD n D) ++ T).length)) s4 y5 s6 s7 (some (.ref (PH M0 n (rowD n D) ++ T).length)) s9) (PH (PH M0 n (rowD n D) ++ T) n (rowD n (sq n D))) := by
  generalize hM : PH M0 n (rowD n D) ++ T = M
  obtain ⟨L2, h2, e, y5, rfl, rfl⟩ := forL_num (ok := (Src.rg 0 n).ok) (g := .nm 5) (body := l2__law_sums) (n := n)
    (fun q L h' => ∃ y5, L = Ls fs n (some (.ref M0.length)) s4 y5 s6 s7 (some (.ref M.length)) s9 ∧ h' = PH M q (rowD n (sq n D))) (fun _ _ _ _ => trivial)
    (fun q L h' hq ⟨y5, e1, e2⟩ => by
      subst e1 e2
      refine ⟨Ls fs n (some (.ref M0.length)) s4 (some (.int (q : Int))) s6 s7 (some (.ref M.length)) s9, rfl, Ls fs n (some (.ref M0.length)) s4 (some (.int (q : Int))) s6 s7 (some (.ref M.length)) s9, PH M (q + 1) (rowD n (sq n D)), .inl ?_, _, rfl, rfl⟩
      obtain ⟨Q, hR⟩ : ∃ Q, PH M q (rowD n (sq n D)) = PH M0 n (rowD n D) ++ Q := ⟨_, by
        show M ++ _ = _
        rw [← hM, List.append_assoc]⟩
      have ec := eComp_pure (i := iRange1 (eVar 1)) (vs := [4]) (g := .nm 4) (t := tYes) (e := eGc (eOpN bMin (aCons (eComp (iRange1 (eVar 1)) [9] (.nm 9) tYes (eOp2 opAdd (eOp2 opIx (eOp2 opIx (eVar 3) (eVar 5)) (eVar 9)) (eOp2 opIx (eOp2 opIx (eVar 3) (eVar 9)) (eVar 4)))) aNil)))
        (L := Ls fs n (some (.ref M0.length)) s4 (some (.int (q : Int))) s6 s7 (some (.ref M.length)) s9) (h0 := PH M q (rowD n (sq n D))) (h := PH M q (rowD n (sq n D)))
        (enc := fun (i : Nat) => W.int (i : Int)) (s := .rg 0 n) (fun _ => true) (fun j => W.int (sq n D q j)) (List.range n) (rg_ok hn) (rg_items n) (fun _ => trivial) (by simp [sizeMax]; omega)
        (fun j hj => ⟨Ls fs n (some (.ref M0.length)) (some (.int (j : Int))) (some (.int (q : Int))) s6 s7 (some (.ref M.length)) s9, rfl, fun acc => ⟨rfl, fun _ => by
          rw [hR, List.append_assoc]
          have hj' : j < n := List.mem_range.mp hj
          have ed := eComp_pure (i := iRange1 (eVar 1)) (vs := [9]) (g := .nm 9) (t := tYes) (e := eOp2 opAdd (eOp2 opIx (eOp2 opIx (eVar 3) (eVar 5)) (eVar 9)) (eOp2 opIx (eOp2 opIx (eVar 3) (eVar 9)) (eVar 4)))
            (L := Ls fs n (some (.ref M0.length)) (some (.int (j : Int))) (some (.int (q : Int))) s6 s7 (some (.ref M.length)) s9) (h0 := PH M0 n (rowD n D) ++ (Q ++ [O.lst acc])) (h := PH M0 n (rowD n D) ++ (Q ++ [O.lst acc]))
            (enc := fun (i : Nat) => W.int (i : Int)) (s := .rg 0 n) (fun _ => true) (fun k => W.int (D q k + D k j)) (List.range n) (rg_ok hn) (rg_items n) (fun _ => trivial) (by simp [sizeMax]; omega)
            (fun k hk => ⟨Ls fs n (some (.ref M0.length)) (some (.int (j : Int))) (some (.int (q : Int))) s6 s7 (some (.ref M.length)) (some (.int (k : Int))), rfl, fun acc2 => ⟨rfl, fun _ => by
              have hk' : k < n := List.mem_range.mp hk
              rw [List.append_assoc]
              simp only [eOp2_eq, eVar_eq, Ls, List.getElem?_cons_succ, List.getElem?_cons_zero, R.bind_ok, ix_PH hq, R.of_some, ix_PH2 hq (rowD_get (D := D) (i := q) hk'), ix_PH hk', ix_PH2 hk' (rowD_get (D := D) (i := k) hj'), add_int]⟩⟩)
          rw [filter_true] at ed
          have gm := min_lst (f := fun k => D q k + D k j) h0 (app_at (M := PH M0 n (rowD n D) ++ (Q ++ [O.lst acc])) (x := O.lst ((List.range n).map fun k => W.int (D q k + D k j))))
          refine eGc_ok (h' := (PH M0 n (rowD n D) ++ (Q ++ [O.lst acc])) ++ [O.lst ((List.range n).map fun k => W.int (D q k + D k j))]) ?_ (by simp) List.take_left
          rw [eOpN_eq, aCons_eq, ed]
          simp only [R.bind_ok, aNil_eq, gm, R.of_some]
          rfl⟩⟩)
      rw [filter_true] at ec
      have hD := PH_top M q (rowD n (sq n D)) []
      rw [List.append_nil] at hD
      have hD2 := PH_top M q (rowD n (sq n D)) [O.lst (rowD n (sq n D) q)]
      have ap := app_lst hD2 (x := W.ref (M.length + 1 + q)) (by simp; omega)
      rw [PH_snoc] at ap
      rw [show ((List.range n).map fun j => W.int (sq n D q j)) = rowD n (sq n D) q from rfl] at ec
      simp only [Ls] at ec ⊢
      simp only [l2__law_sums, sCons_eq, sExpr_eq, eMetL_eq, eVar_eq, aCons_eq, List.getElem?_cons_succ, List.getElem?_cons_zero, R.bind_ok, isLst_of hD, if_true, ec, aNil_eq, PH_len, ap, R.of_some, R.then_ok, Out.seq_nx, sNil_eq])
    (L := Ls fs n (some (.ref M0.length)) s4 s5 s6 s7 (some (.ref M.length)) s9) (h := PH M 0 (rowD n (sq n D))) ⟨s5, rfl, rfl⟩
  refine ⟨y5, ?_⟩
  have e0 : (sAsg (.nm 8) (eLst aNil)) (Ls fs n (some (.ref M0.length)) s4 s5 s6 s7 s8 s9) M = .nx (Ls fs n (some (.ref M0.length)) s4 s5 s6 s7 (some (.ref M.length)) s9) (PH M 0 (rowD n (sq n D))) := by
    simp [Ls, PH]
  rw [l1__law_sums, sCons_eq, e0, Out.seq_nx, sCons_eq, sFor_eq, rg_ok hn, R.then_ok, items_rg, e, Out.seq_nx]
  simp [Ls]
/-- what the law's own sums tell -/
inductive Sums (fs : List Fact) (n : Nat) (h : Hh) : W → Hh → Prop where
  | no : ¬ Feas fs → Sums fs n h (.bool false) h
  | yes (M0 T : Hh) (D : Mat) : h.length ≤ M0.length → (PH M0 n (rowD n D) ++ T).take h.length = h → (∀ i j : Nat, i < n → j < n → ∀ c : Int, c ≤ 200000000 → (D i j ≤ c ↔ ∃ ps s, Walk fs i j ps s ∧ s ≤ c)) → Feas fs → Sums fs n h (.ref M0.length) (PH M0 n (rowD n D) ++ T)
theorem sums_ok {fs : List Fact} {n : Nat} {h : Hh} (hf : ∀ f ∈ fs, Fits n f) (h0 : 0 < n) (hn : n ≤ 60) (hl : fs.length ≤ 1000000) (hb : ∀ f ∈ fs, -10000000 ≤ f.2.2) :
    ∃ w h', m__law_sums [.d (encFs fs), .d (.int (n : Int))] h = .ok w h' ∧ Sums fs n h w h' := by
  obtain ⟨s4, s5, s6, ef⟩ := sums_facts (h := h) hf
  obtain ⟨L2, h2, e, M0, T, y5, y7, y8, rfl, rfl, hM, hp⟩ := forL_num (ok := (Src.rg 0 6).ok) (g := .nm 7) (body := l1__law_sums) (n := 6)
    (fun t L h' => ∃ M0 T y5 y7 y8, L = Ls fs n (some (.ref M0.length)) s4 y5 s6 y7 y8 none ∧ h' = PH M0 n (rowD n (sqN n (matF fs) t)) ++ T ∧ h.length ≤ M0.length ∧ (PH M0 n (rowD n (sqN n (matF fs) t)) ++ T).take h.length = h) (fun _ _ _ _ => trivial)
    (fun t L h' ht ⟨M0, T, y5, y7, y8, e1, e2, hM, hp⟩ => by
      subst e1 e2
      obtain ⟨y5', e⟩ := sums_sq (fs := fs) (M0 := M0) (T := T) (D := sqN n (matF fs) t) (s4 := s4) (s5 := y5) (s6 := s6) (s7 := some (.int (t : Int))) (s8 := y8) (s9 := none) h0 (by omega)
      have ln : h.length ≤ (PH M0 n (rowD n (sqN n (matF fs) t)) ++ T).length := by rw [List.length_append, PH_len]; omega
      refine ⟨Ls fs n (some (.ref M0.length)) s4 y5 s6 (some (.int (t : Int))) y8 none, rfl, _, _, .inl e, PH M0 n (rowD n (sqN n (matF fs) t)) ++ T, [], y5', _, _, rfl, by rw [List.append_nil]; rfl, ln, ?_⟩
      rw [List.append_nil]
      show (PH (PH M0 n (rowD n (sqN n (matF fs) t)) ++ T) n _).take h.length = h
      unfold PH at hp ln ⊢
      rw [List.take_append_of_le_length ln]
      exact hp)
    (L := Ls fs n (some (.ref h.length)) s4 s5 s6 none none none) (h := PH h n (rowD n (matF fs))) ⟨h, [], s5, none, none, rfl, by rw [List.append_nil]; rfl, Nat.le_refl _, by simp [PH]⟩
  generalize hD : sqN n (matF fs) 6 = D at e hp
  have hin : In n fs := hf
  have short : ∀ {u v s : Int} {ps : List Nat}, (0 ≤ u ∧ u < n) → Walk fs u v ps s → ps.length ≤ 64 → D u.toNat v.toNat ≤ s := fun hu k hl => by
    have := sq_le hin 6 hu k (by simpa using hl)
    rw [hD] at this; exact this
  have long : ∀ i j : Nat, i < n → j < n → ∀ c, c ≤ 200000000 → D i j ≤ c → ∃ ps s, Walk fs i j ps s ∧ s ≤ c := fun i j hi hj c hc hle => by
    have := sq_walk hin h0 hb 6 (Nat.le_refl _) i j hi hj
    rw [hD] at this
    rcases this with ⟨ps, k, _⟩ | q
    · exact ⟨ps, _, k, hle⟩
    · exfalso
      have e64 : (2 : Int) ^ 6 = 64 := rfl
      rw [e64] at q
      unfold far at q
      omega
  have start : ∀ o, forL (Src.rg 0 n).ok (.nm 5) l3__law_sums (rgItems 0 n) (Ls fs n (some (.ref M0.length)) s4 y5 s6 y7 y8 none) (PH M0 n (rowD n D) ++ T) = o → m__law_sums [.d (encFs fs), .d (.int (n : Int))] h = tidy h (outR h (o.seq (sCons (sRet (eVar 3)) sNil))) := fun o eo => by
    have ep : opPow (.d (.int 10)) (.d (.int 15)) h = some (.int far, h) := by unfold opPow; simp [far]
    have ei := sums_init (fs := fs) (h := h) (show n < 1000 by omega)
    have e1 : (sAsg (.nm 2) (eOp2 opPow (eCon (.int 10)) (eCon (.int 15)))) [some (.d (encFs fs)), some (.int n), none, none, none, none, none, none, none, none] h = .nx (Ls fs n none none none none none none none) h := by
      simp [ep, Ls]
    have e2 : iSeq (eVar 0) (Ls fs n (some (.ref h.length)) none none none none none none) (PH h n (rowD n mat0)) = .ok (.tp (fs.map fun f => W.d (encF f))) (PH h n (rowD n mat0)) := by simp [Ls]
    have e3 : iRange1 (eCon (.int 6)) (Ls fs n (some (.ref h.length)) s4 s5 s6 none none none) (PH h n (rowD n (matF fs))) = .ok (.rg 0 6) (PH h n (rowD n (matF fs))) := by simp
    simp only [m__law_sums, fn, b__law_sums, List.length_cons, List.length_nil, if_true, List.map_cons, List.map_nil, List.replicate, List.cons_append, List.nil_append, Nat.reduceAdd, Nat.reduceSub]
    rw [sCons_eq, e1, Out.seq_nx, sCons_eq, sAsg_eq, ei, R.then_ok]
    simp only [put_nm, Out.seq_nx]
    rw [show (Ls fs n none none none none none none none).set 3 (some (.ref h.length)) = Ls fs n (some (.ref h.length)) none none none none none none from rfl]
    rw [sCons_eq, sFor_eq, e2, R.then_ok, items_tp, ef, Out.seq_nx, sCons_eq, sFor_eq, e3, R.then_ok, items_rg, e, Out.seq_nx, sCons_eq, sFor_eq, rg_ok (by omega), R.then_ok, items_rg, eo]
  have hU : (unk fs).length < 64 := Nat.lt_of_le_of_lt (unk_le hf h0) (by omega)
  rcases forL_numR (ok := (Src.rg 0 n).ok) (g := .nm 5) (body := l3__law_sums) (n := n)
    (fun k L h' => h' = PH M0 n (rowD n D) ++ T ∧ (∃ y5, L = Ls fs n (some (.ref M0.length)) s4 y5 s6 y7 y8 none) ∧ ∀ i, i < k → 0 ≤ D i i)
    (fun w h2 => w = .bool false ∧ h2 = PH M0 n (rowD n D) ++ T ∧ ∃ i, i < n ∧ D i i < 0) (fun _ _ _ _ => trivial)
    (fun k L h' hk ⟨e1, ⟨y5, e2⟩, hall⟩ => by
      subst e1 e2
      refine ⟨Ls fs n (some (.ref M0.length)) s4 (some (.int (k : Int))) s6 y7 y8 none, rfl, ?_⟩
      have x1 := ix_PH (h0 := M0) (F := rowD n D) (T := T) hk
      have x2 := ix_PH2 (h0 := M0) (F := rowD n D) (T := T) hk (rowD_get (D := D) (i := k) hk)
      by_cases hlt : D k k < 0
      · exact .inr ⟨.bool false, _, by simp [l3__law_sums, Ls, x1, x2, hlt], rfl, rfl, k, hk, hlt⟩
      · refine .inl ⟨Ls fs n (some (.ref M0.length)) s4 (some (.int (k : Int))) s6 y7 y8 none, _, .inl (by simp [l3__law_sums, Ls, x1, x2, hlt]), rfl, ⟨_, rfl⟩, fun i hi => ?_⟩
        by_cases e : i = k
        · subst e; omega
        · exact hall i (by omega))
    (L := Ls fs n (some (.ref M0.length)) s4 y5 s6 y7 y8 none) (h := PH M0 n (rowD n D) ++ T) ⟨rfl, ⟨_, rfl⟩, fun i hi => absurd hi (Nat.not_lt_zero _)⟩ with ⟨L2, h2, e5, rfl, ⟨z5, rfl⟩, hall⟩ | ⟨w, h2, e5, rfl, rfl, i, hi, hneg⟩
  · have hF : Feas fs := by
      rcases clash_ok (fs := fs) (h := []) (by omega) hU with ⟨_, hF⟩ | ⟨row, u, s, _, k1, k2, k3, k4⟩
      · exact hF
      · exfalso
        obtain ⟨p, ps, rfl⟩ := List.exists_cons_of_ne_nil k2
        obtain ⟨w, d, hf'⟩ := k1.first
        have hu := (hf _ (List.mem_of_getElem? hf')).1
        simp only at hu
        have := short hu k1 (by omega)
        have := hall u.toNat (by omega)
        omega
    refine ⟨.ref M0.length, PH M0 n (rowD n D) ++ T, ?_, .yes M0 T D hM hp (fun i j hi hj c hc => ⟨long i j hi hj c hc, fun ⟨ps, s, k, hs⟩ => ?_⟩) hF⟩
    · rw [start _ e5]
      have : ¬ M0.length < h.length := by omega
      simp [Ls, gc, this]
    · obtain ⟨ps', s', k', hs', hl'⟩ := shorten (names_nms hf) hF _ (Nat.le_refl _) (mem_nms.mpr (by omega)) k
      have := short (by omega) k' (by rw [nms_len] at hl'; omega)
      simp only [Int.toNat_natCast] at this
      omega
  · refine ⟨.bool false, h, ?_, .no fun hF => ?_⟩
    · rw [start _ e5]
      simp [gc, hp]
    · obtain ⟨ps, s, k, hs⟩ := long i i hi hi (-1) (by omega) (by omega)
      have := hF.cycle k
      omega
end Sp
end

section
/-! St00: the law k00: many facts. -/
namespace Sp
open Mi Sem BF
open PySem (PyData Str)
@[simp] theorem Bx_len' (ds : List Int) (k : Nat) : (Bx ds k).length = 2 := (rfl)
theorem eq_bool (neg a b : Bool) (M : Hh) : opEqB neg (.d (.bool a)) (.d (.bool b)) M = some (.bool (neg != (a == b)), M) := by
  simp [opEqB, PyData.depth, PyData.eqv]
theorem bx_get {ds : List Int} {k k' : Nat} {X : Hh} {a : Nat} {o : O} (ha : 2 ≤ a) (h : (Bx ds k ++ X)[a]? = some o) (Y : Hh) : (Bx ds k' ++ (X ++ Y))[a]? = some o := by
  rw [List.getElem?_append_right (by simpa using ha)] at h ⊢
  simp only [Bx_len'] at h ⊢
  exact keep h
/-- what the law's own sums are good for -/
structure Fol (fs : List Fact) (n : Nat) (ds : List Int) (X : Hh) (w : W) : Prop where
  isF : ∀ M, ∃ b, opIsB false w (.d (.bool false)) M = some (.bool b, M) ∧ (b = true ↔ ¬ Feas fs)
  fol : ∀ (k : Nat) (Y : Hh) (i j c : Int), Fits n (i, j, c) → c ≤ 200000000 → ∃ b, m__law_follows [w, .d (encF (i, j, c))] (Bx ds k ++ (X ++ Y)) = .ok (.bool b) (Bx ds k ++ (X ++ Y)) ∧ (b = true ↔ ¬ Feas fs ∨ ∃ ps s, Walk fs i j ps s ∧ s ≤ c)
theorem fol_of {fs : List Fact} {n : Nat} {ds : List Int} {k : Nat} {T : Hh} {w : W} {h' : Hh} (S : Sums fs n (Bx ds k ++ T) w h') : ∃ X, h' = Bx ds k ++ X ∧ Fol fs n ds X w := by
  generalize hh : Bx ds k ++ T = h at S
  cases S with
  | no hF =>
    refine ⟨T, hh.symm, ⟨fun M => ⟨true, rfl, by simp [hF]⟩, fun k Y i j c _ _ => ⟨true, ?_, by simp [hF]⟩⟩⟩
    simp [m__law_follows, fn, b__law_follows, opIsB]
  | yes M0 T' D hM hp hD hF =>
    subst hh
    have lM : 2 ≤ M0.length := by simp at hM; omega
    obtain ⟨X, hX⟩ : ∃ X, PH M0 n (rowD n D) ++ T' = Bx ds k ++ X := by
      refine ⟨T ++ (PH M0 n (rowD n D) ++ T').drop (Bx ds k ++ T).length, ?_⟩
      rw [← List.append_assoc, ← hp, List.length_take]
      have : (Bx ds k ++ T).length ≤ (PH M0 n (rowD n D) ++ T').length := by rw [List.length_append (as := PH M0 n (rowD n D)) (bs := T'), PH_len]; omega
      rw [Nat.min_eq_left this, List.take_append_drop]
    refine ⟨X, hX, ⟨fun M => ⟨false, rfl, by simp [hF]⟩, fun k2 Y i j c hfit hc => ?_⟩⟩
    obtain ⟨h1, h2⟩ := hfit
    simp only at h1 h2
    obtain ⟨i', rfl⟩ : ∃ i' : Nat, i = i' := ⟨i.toNat, by omega⟩
    obtain ⟨j', rfl⟩ : ∃ j' : Nat, j = j' := ⟨j.toNat, by omega⟩
    have hi : i' < n := by omega
    have hj : j' < n := by omega
    have g1 : (Bx ds k2 ++ (X ++ Y))[M0.length]? = some (.lst ((List.range n).map fun i => W.ref (M0.length + 1 + i))) := bx_get lM (by rw [← hX]; exact PH_top _ _ _ _) Y
    have g2 : (Bx ds k2 ++ (X ++ Y))[M0.length + 1 + i']? = some (.lst (rowD n D i')) := bx_get (by omega) (by rw [← hX]; exact PH_row hi) Y
    have x1 : opIx (.ref M0.length) (.d (.int (i' : Int))) (Bx ds k2 ++ (X ++ Y)) = some (.ref (M0.length + 1 + i'), Bx ds k2 ++ (X ++ Y)) := opIx_lst g1 (by simp [hi])
    have x2 : opIx (.ref (M0.length + 1 + i')) (.d (.int (j' : Int))) (Bx ds k2 ++ (X ++ Y)) = some (W.int (D i' j'), Bx ds k2 ++ (X ++ Y)) := opIx_lst g2 (rowD_get hj)
    refine ⟨decide (D i' j' ≤ c), ?_, ?_⟩
    · simp [m__law_follows, fn, b__law_follows, opIsB, x1, x2]
    · rw [decide_eq_true_eq, hD i' j' hi hj c hc]
      simp [hF]
def Lm (n : Nat) (size : Int) (fs : List Fact) (s4 s5 s6 s7 s8 : Option W) : Loc := [some (.ref 1), some (.int n), some (.int size), some (.d (encFs fs)), s4, s5, s6, s7, s8]
/-- how great the numbers are -/
def Size (s : Int) : Prop := s = 1 ∨ s = 7 ∨ s = 10000000
theorem Size.mul {s : Int} (h : Size s) : -4294967296 < s ∧ s < 4294967296 := by rcases h with rfl | rfl | rfl <;> omega
theorem many_l0 {ds : List Int} {n k : Nat} {size : Int} {fs : List Fact} {s4 s5 : Option W} {T : Hh} (h0 : 0 < n) (hs : Size size) (hl : fs.length ≤ 100) :
    ∃ f y5, l0__law_many (Lm n size fs s4 s5 none none none) (Bx ds k ++ T) = .nx (Lm n size (fs ++ [f]) s4 y5 none none none) (Bx ds (k + 3) ++ T) ∧ Fits n f ∧ -10000000 ≤ f.2.2 := by
  have d1 := draw_ok (ds := ds) (k := k) (T := T) (show (0 : Int) < 12 by omega)
  have d2 := draw_ok (ds := ds) (k := k + 1) (T := T) (show (0 : Int) < n by omega)
  have d3 := draw_ok (ds := ds) (k := k + 2) (T := T) (show (0 : Int) < n by omega)
  have r1 := dr_range (ds := ds) (k := k) (show (0 : Int) < 12 by omega)
  have r2 := dr_range (ds := ds) (k := k + 1) (show (0 : Int) < n by omega)
  have r3 := dr_range (ds := ds) (k := k + 2) (show (0 : Int) < n by omega)
  generalize dr ds k 12 = a at d1 r1
  generalize dr ds (k + 1) n = i at d2 r2
  generalize dr ds (k + 2) n = j at d3 r3
  refine ⟨(i, j, (a - 1) * size), some (.int ((a - 1) * size)), ?_, ⟨r2, r3⟩, ?_⟩
  · have e2 : mkTup [.d (.int i), .d (.int j), .d (.int ((a - 1) * size))] = .d (encF (i, j, (a - 1) * size)) := rfl
    have e3 : mkTup [.d (encF (i, j, (a - 1) * size))] = .d (.tuple [encF (i, j, (a - 1) * size)]) := rfl
    simp only [l0__law_many, sCons_eq, sAsg_eq, eOp2_eq, eCall_eq, aCons_eq, aNil_eq, eVar_eq, eCon_eq, Lm, List.getElem?_cons_succ, List.getElem?_cons_zero, R.bind_ok, d1, sub_int, R.of_some, mul_ok hs.mul, R.then_ok, put_nm, List.set_cons_succ, List.set_cons_zero, Out.seq_nx, eTup_eq, List.length_cons, List.length_nil, sizeMax, Nat.reduceAdd, Nat.reduceLeDiff, if_true, d2, d3, e2, e3, add_snoc (show fs.length < 16777216 by omega), sNil_eq]
  · simp only
    rcases hs with rfl | rfl | rfl <;> omega
theorem many_l1 {ds : List Int} {n k : Nat} {size : Int} {fs : List Fact} {s4 s5 s7 s8 : Option W} {X Y : Hh} {w : W} (hf : ∀ f ∈ fs, Fits n f) (h0 : 0 < n) (hn : n < 60) (hs : Size size) (hl : fs.length ≤ 100) (F : Fol fs n ds X w) :
    ∃ k' Y' y7 y8, l1__law_many (Lm n size fs s4 s5 (some w) s7 s8) (Bx ds k ++ (X ++ Y)) = .nx (Lm n size fs s4 s5 (some w) y7 y8) (Bx ds k' ++ (X ++ Y')) := by
  have d1 := draw_ok (ds := ds) (k := k) (T := X ++ Y) (show (0 : Int) < n by omega)
  have d2 := draw_ok (ds := ds) (k := k + 1) (T := X ++ Y) (show (0 : Int) < n by omega)
  have d3 := draw_ok (ds := ds) (k := k + 2) (T := X ++ Y) (show (0 : Int) < 20 by omega)
  have r1 := dr_range (ds := ds) (k := k) (show (0 : Int) < n by omega)
  have r2 := dr_range (ds := ds) (k := k + 1) (show (0 : Int) < n by omega)
  have r3 := dr_range (ds := ds) (k := k + 2) (show (0 : Int) < 20 by omega)
  generalize dr ds k n = i at d1 r1
  generalize dr ds (k + 1) n = j at d2 r2
  generalize dr ds (k + 2) 20 = a at d3 r3
  obtain ⟨c, hc⟩ : ∃ c, c = (a - 2) * size := ⟨_, rfl⟩
  have hc2 : c ≤ 200000000 := by rcases hs with rfl | rfl | rfl <;> omega
  have e2 : mkTup [.d (.int i), .d (.int j), .d (.int c)] = .d (encF (i, j, c)) := rfl
  have hfit : Fits n (i, j, c) := ⟨r1, r2⟩
  have hU : (unk fs).length < 64 := Nat.lt_of_le_of_lt (unk_le hf h0) (by omega)
  obtain ⟨w1, c1, A⟩ := chain_ok (fs := fs) (h := Bx ds (k + 3) ++ (X ++ Y)) (i := i) (j := j) (c := c) (by omega) hU
  obtain ⟨b, f1, hb⟩ := F.fol (k + 3) Y i j c hfit hc2
  obtain ⟨w2, g1, N⟩ := against_ok (fs := fs) (h := Bx ds (k + 3) ++ (X ++ Y)) (n := n) hf hfit (by omega) h0 (by omega)
  -- the chain
  obtain ⟨t1, ht1, q1⟩ : ∃ t1, (t1 = true ↔ w1 ≠ .non) ∧ ∀ M, opIsN true w1 (.d .none) M = some (.bool t1, M) := by
    rcases A.prv with rfl | ⟨row, rfl, _⟩
    · exact ⟨false, by simp, fun M => rfl⟩
    · exact ⟨true, by simp [encR], fun M => rfl⟩
  have hA : t1 = b := by
    rw [Bool.eq_iff_iff, ht1, hb]
    cases A with
    | none hF hw =>
      simp only [ne_eq, not_true_eq_false, false_iff, not_or, Classical.not_not, not_exists, not_and]
      exact ⟨hF, fun ps s kk hle => by have := hw ps s kk; omega⟩
    | chain kk hle _ => simp only [ne_eq, W.d.injEq, encR, reduceCtorEq, not_false_eq_true, true_iff]; exact .inr ⟨_, _, kk, hle⟩
    | round kk _ hlt _ =>
      simp only [ne_eq, W.d.injEq, encR, reduceCtorEq, not_false_eq_true, true_iff]
      exact .inl fun hF => by have := hF.cycle kk; omega
  have hPr : t1 = true → m_proves [.d (encFs fs), .d (encF (i, j, c)), w1] (Bx ds (k + 3) ++ (X ++ Y)) = .ok (.bool true) (Bx ds (k + 3) ++ (X ++ Y)) := fun ht => by
    have ha := ht1.mp ht
    rcases A.prv with rfl | ⟨row, rfl, hP, hrl⟩
    · exact (ha rfl).elim
    · obtain ⟨b, e, hT⟩ := proves_ok (fs := fs) (i := i) (j := j) (c := c) (h := Bx ds (k + 3) ++ (X ++ Y)) (w := .d (encR row)) (fun xs e => by simp [encR] at e; subst e; simp; omega) (.inr ⟨_, rfl, fun x hx => by
        obtain ⟨p, _, rfl⟩ := List.mem_map.mp hx
        rfl⟩)
      have : b = true := hT.mpr ⟨row, rfl, (by
        rcases hP with ⟨s, kk, _⟩ | ⟨_, u, s, kk, _⟩
        · exact kk.places
        · exact kk.places), hP⟩
      rw [e, this]
  -- the numbers
  obtain ⟨t2, ht2, q2⟩ : ∃ t2, (t2 = true ↔ w2 = .non) ∧ ∀ neg M, opIsN neg w2 (.d .none) M = some (.bool (neg != t2), M) := by
    cases N with
    | none _ => exact ⟨true, by simp, fun neg M => rfl⟩
    | some _ _ _ => exact ⟨false, by simp [encV], fun neg M => rfl⟩
  have hN : t2 = b := by
    rw [Bool.eq_iff_iff, ht2, hb]
    cases N with
    | none hF =>
      simp only [true_iff]
      by_cases hFf : Feas fs
      · right
        refine Classical.byContradiction fun hno => hF (feas_add (names_nms hf) hFf fun ps s kk => ?_)
        have : ¬ s ≤ c := fun hle => hno ⟨ps, s, kk, hle⟩
        omega
      · exact .inl hFf
    | some _ _ hs =>
      simp only [W.d.injEq, encV, reduceCtorEq, false_iff]
      have hF : Feas (fs ++ [(j, i, 0 - c - 1)]) := ⟨_, hs⟩
      rintro (h | ⟨ps, s, kk, hle⟩)
      · exact h (feas_sub hF)
      · exact not_feas_add kk hle hF
  subst hA
  subst hN
  have first : ∀ rest, (sCons (sAsg (.nm 7) (eTup (aCons (eCall m__law_draw (aCons (eVar 0) (aCons (eVar 1) aNil))) (aCons (eCall m__law_draw (aCons (eVar 0) (aCons (eVar 1) aNil))) (aCons (eOp2 opMul (eOp2 opSub (eCall m__law_draw (aCons (eVar 0) (aCons (eCon (.int 20)) aNil))) (eCon (.int 2))) (eVar 2)) aNil)))))
      (sCons (sAsg (.nm 8) (eCall m_chain (aCons (eVar 3) (aCons (eVar 7) aNil)))) rest)) (Lm n size fs s4 s5 (some w) s7 s8) (Bx ds k ++ (X ++ Y)) = rest (Lm n size fs s4 s5 (some w) (some (.d (encF (i, j, c)))) (some w1)) (Bx ds (k + 3) ++ (X ++ Y)) := fun rest => by
    simp only [sCons_eq, sAsg_eq, eTup_eq, aCons_eq, aNil_eq, eCall_eq, eVar_eq, eOp2_eq, eCon_eq, Lm, List.getElem?_cons_succ, List.getElem?_cons_zero, R.bind_ok, d1, d2, d3, sub_int, R.of_some, mul_ok hs.mul, ← hc, List.length_cons, List.length_nil, sizeMax, Nat.reduceAdd, Nat.reduceLeDiff, if_true, e2, R.then_ok, put_nm, List.set_cons_succ, List.set_cons_zero, Out.seq_nx, c1]
  rw [l1__law_many, first]
  have second : ∀ rest, (sCons (sIf (tOr (tVal (eOp2 opNe (eOp2 (opIsN true) (eVar 8) (eCon .non)) (eCall m__law_follows (aCons (eVar 6) (aCons (eVar 7) aNil))))) (tAnd (tVal (eOp2 (opIsN true) (eVar 8) (eCon .non))) (tNot (tVal (eCall m_proves (aCons (eVar 3) (aCons (eVar 7) (aCons (eVar 8) aNil))))))))
      (sCons (sRet (eCon (.bool false))) sNil) sNil) rest) (Lm n size fs s4 s5 (some w) (some (.d (encF (i, j, c)))) (some w1)) (Bx ds (k + 3) ++ (X ++ Y)) = rest (Lm n size fs s4 s5 (some w) (some (.d (encF (i, j, c)))) (some w1)) (Bx ds (k + 3) ++ (X ++ Y)) := fun rest => by
    cases ht : t2 with
    | false =>
      rw [ht] at q1 f1
      simp [Lm, q1, f1, eq_bool]
    | true =>
      have hp := hPr ht
      rw [ht] at q1 f1
      simp [Lm, q1, f1, eq_bool, hp]
  rw [second]
  have third : ∀ rest, (sCons (sAsg (.nm 8) (eCall m_against (aCons (eVar 3) (aCons (eVar 7) (aCons (eVar 1) aNil)))))
      (sCons (sIf (tVal (eOp2 opNe (eOp2 (opIsN false) (eVar 8) (eCon .non)) (eCall m__law_follows (aCons (eVar 6) (aCons (eVar 7) aNil)))))
      (sCons (sRet (eCon (.bool false))) sNil) sNil) rest)) (Lm n size fs s4 s5 (some w) (some (.d (encF (i, j, c)))) (some w1)) (Bx ds (k + 3) ++ (X ++ Y)) = rest (Lm n size fs s4 s5 (some w) (some (.d (encF (i, j, c)))) (some w2)) (Bx ds (k + 3) ++ (X ++ Y)) := fun rest => by
    have q3 := q2 false
    simp [Lm, g1, q3, f1, eq_bool]
  rw [third]
  cases N with
  | none hF =>
    refine ⟨k + 3, Y, some (.d (encF (i, j, c))), some .non, ?_⟩
    simp [Lm, opIsN, isN]
  | @some vs hv hh hs' =>
    have rg := right_ok (fs := fs) (h := Bx ds (k + 3) ++ (X ++ Y)) hf (by omega) (by omega) hv hh (fun f hf' => hs' f (List.mem_append_left _ hf'))
    obtain ⟨b', e1, hb'⟩ := fit_one (vs := vs) (f := (i, j, c)) (h := (Bx ds (k + 3) ++ (X ++ Y)) ++ [.lst [.d (encF (i, j, c))]]) (a := (Bx ds (k + 3) ++ (X ++ Y)).length) (by rw [hv]; exact hfit) app_at
    have nb : b' = false := by
      rw [Bool.eq_false_iff]
      intro hbt
      have x1 := hb'.mp hbt
      have x2 := hs' (j, i, 0 - c - 1) (by simp)
      unfold Sat at x1 x2
      simp only at x1 x2
      omega
    subst nb
    refine ⟨k + 3, Y ++ [.lst [.d (encF (i, j, c))]], some (.d (encF (i, j, c))), some (.d (encV vs)), ?_⟩
    have q3 := q2 true (Bx ds (k + 3) ++ (X ++ Y))
    have ht : opIsN true (.d (encV vs)) (.d .none) (Bx ds (k + 3) ++ (X ++ Y)) = some (.bool true, Bx ds (k + 3) ++ (X ++ Y)) := rfl
    simp only [sCons_eq, sIf_eq, tAnd_eq, tVal_eq, eOp2_eq, eVar_eq, eCon_eq, Lm, List.getElem?_cons_succ, List.getElem?_cons_zero, R.bind_ok, ht, R.of_some, asBool_bool, if_true, tOr_eq, tNot_eq, eCall_eq, aCons_eq, aNil_eq, rg, Bool.not_true, Bool.false_eq_true, if_false, eLst_eq, List.length_cons, List.length_nil, sizeMax, Nat.reduceAdd, Nat.reduceLeDiff, e1, R.then_ok, sNil_eq, Out.seq_nx]
    simp
end Sp
end

section
/-! Su00: the law k00: _law_many, the law. -/
namespace Sp
open Mi Sem BF
open PySem (PyData Str)
theorem many_size {ds : List Int} {n k : Nat} {s2 : Option W} : ∃ size, Size size ∧ (sAsg (.nm 2) (eGc (eOp2 opIx (eLst (aCons (eCon (.int 1)) (aCons (eCon (.int 7)) (aCons (eOp2 opPow (eCon (.int 10)) (eCon (.int 7))) aNil)))) (eCall m__law_draw (aCons (eVar 0) (aCons (eCon (.int 3)) aNil))))))
    [some (.ref 1), some (.int n), none, none, none, none, none, none, none] (Bx ds k) = .nx [some (.ref 1), some (.int n), some (.int size), none, none, none, none, none, none] (Bx ds (k + 1) ++ [.lst [.int 1, .int 7, .int 10000000]]) := by
  have d1 := draw_ok (ds := ds) (k := k) (T := [.lst [.int 1, .int 7, .int 10000000]]) (show (0 : Int) < 3 by omega)
  have r1 := dr_range (ds := ds) (k := k) (show (0 : Int) < 3 by omega)
  generalize dr ds k 3 = a at d1 r1
  have ep : ∀ M, opPow (.d (.int 10)) (.d (.int 7)) M = some (.int 10000000, M) := fun M => by unfold opPow; simp
  have g : (Bx ds (k + 1) ++ [O.lst [.int 1, .int 7, .int 10000000]])[2]? = some (.lst [.int 1, .int 7, .int 10000000]) := rfl
  have l2 : (Bx ds k).length = 2 := rfl
  have step : ∀ size, opIx (.ref 2) (.d (.int a)) (Bx ds (k + 1) ++ [.lst [.int 1, .int 7, .int 10000000]]) = some (W.int size, Bx ds (k + 1) ++ [.lst [.int 1, .int 7, .int 10000000]]) → eGc (eOp2 opIx (eLst (aCons (eCon (.int 1)) (aCons (eCon (.int 7)) (aCons (eOp2 opPow (eCon (.int 10)) (eCon (.int 7))) aNil)))) (eCall m__law_draw (aCons (eVar 0) (aCons (eCon (.int 3)) aNil))))
      [some (.ref 1), some (.int n), none, none, none, none, none, none, none] (Bx ds k) = .ok (.int size) (Bx ds (k + 1) ++ [.lst [.int 1, .int 7, .int 10000000]]) := fun size e => by
    refine eGc_no ?_ ?_
    · simp only [eOp2_eq, eLst_eq, aCons_eq, aNil_eq, eCon_eq, R.bind_ok, ep, R.of_some, List.length_cons, List.length_nil, sizeMax, Nat.reduceAdd, Nat.reduceLeDiff, if_true, eCall_eq, eVar_eq, List.getElem?_cons_zero, d1, l2, e]
    · have := Bx_ne (ds := ds) (k := k) (k' := k + 1) (T := []) (T' := [.lst [.int 1, .int 7, .int 10000000]]) (by omega)
      simpa using this
  have hc : a = 0 ∨ a = 1 ∨ a = 2 := by omega
  rcases hc with rfl | rfl | rfl
  · refine ⟨1, .inl rfl, ?_⟩
    rw [sAsg_eq, step 1 (opIx_lst (n := 0) g rfl)]; rfl
  · refine ⟨7, .inr (.inl rfl), ?_⟩
    rw [sAsg_eq, step 7 (opIx_lst (n := 1) g rfl)]; rfl
  · refine ⟨10000000, .inr (.inr rfl), ?_⟩
    rw [sAsg_eq, step 10000000 (opIx_lst (n := 2) g rfl)]; rfl
theorem many_ok {ds : List Int} {k : Nat} : ∃ h', m__law_many [.ref 1] (Bx ds k) = .ok (.bool true) h' := by
  have d1 := draw_ok (ds := ds) (k := k) (T := []) (show (0 : Int) < 26 by omega)
  have r1 := dr_range (ds := ds) (k := k) (show (0 : Int) < 26 by omega)
  rw [List.append_nil, List.append_nil] at d1
  generalize dr ds k 26 = a at d1 r1
  obtain ⟨n, hn⟩ : ∃ n : Nat, 5 + a = n := ⟨(5 + a).toNat, by omega⟩
  obtain ⟨size, hs, e2⟩ := many_size (ds := ds) (n := n) (k := k + 1) (s2 := none)
  have d3 := draw_ok (ds := ds) (k := k + 2) (T := [.lst [.int 1, .int 7, .int 10000000]]) (show (0 : Int) < 61 by omega)
  have r3 := dr_range (ds := ds) (k := k + 2) (show (0 : Int) < 61 by omega)
  generalize dr ds (k + 2) 61 = q at d3 r3
  generalize ([O.lst [.int 1, .int 7, .int 10000000]] : Hh) = T at e2 d3
  obtain ⟨L2, h2, e4, fs, k2, y4, y5, rfl, rfl, hlen, hfit⟩ := forL_num (ok := (Src.rg 0 q.toNat).ok) (g := .nm 4) (body := l0__law_many) (n := q.toNat)
    (fun t L h' => ∃ fs k2 y4 y5, L = Lm n size fs y4 y5 none none none ∧ h' = Bx ds k2 ++ T ∧ fs.length = t ∧ ∀ f ∈ fs, Fits n f ∧ -10000000 ≤ f.2.2) (fun _ _ _ _ => trivial)
    (fun t L h' ht ⟨fs, k2, y4, y5, e1, e2, hl, hf⟩ => by
      subst e1 e2
      obtain ⟨f, z5, e, f1, f2⟩ := many_l0 (ds := ds) (n := n) (k := k2) (size := size) (fs := fs) (s4 := some (.int (t : Int))) (s5 := y5) (T := T) (by omega) hs (by omega)
      exact ⟨Lm n size fs (some (.int (t : Int))) y5 none none none, rfl, _, _, .inl e, fs ++ [f], k2 + 3, _, _, rfl, rfl, by simp [hl], fun g hg => by
        rcases List.mem_append.mp hg with hg | hg
        · exact hf g hg
        · simp at hg; subst hg; exact ⟨f1, f2⟩⟩)
    (L := Lm n size [] none none none none none) (h := Bx ds (k + 3) ++ T) ⟨[], k + 3, none, none, rfl, rfl, rfl, fun f hf => by cases hf⟩
  have hf : ∀ f ∈ fs, Fits n f := fun f h => (hfit f h).1
  obtain ⟨w, h3, e5, S⟩ := sums_ok (fs := fs) (n := n) (h := Bx ds k2 ++ T) hf (by omega) (by omega) (by omega) (fun f h => (hfit f h).2)
  obtain ⟨X, rfl, F⟩ := fol_of S
  have hU : (unk fs).length < 64 := Nat.lt_of_le_of_lt (unk_le hf (by omega)) (by omega)
  obtain ⟨b, e6, hb⟩ := F.isF (Bx ds k2 ++ X)
  obtain ⟨w1, e7, t, q1, ht⟩ : ∃ w1, m_clash [.d (encFs fs)] (Bx ds k2 ++ X) = .ok w1 (Bx ds k2 ++ X) ∧ ∃ t, opIsN false w1 (.d .none) (Bx ds k2 ++ X) = some (.bool t, Bx ds k2 ++ X) ∧ (t = true ↔ Feas fs) := by
    rcases clash_ok (fs := fs) (h := Bx ds k2 ++ X) (by omega) hU with ⟨e, hF⟩ | ⟨row, u, s, e, k1, _, k3, _⟩
    · exact ⟨_, e, true, rfl, by simp [hF]⟩
    · refine ⟨_, e, false, rfl, ?_⟩
      simp only [Bool.false_eq_true, false_iff]
      exact fun hF => by have := hF.cycle k1; omega
  have htb : (t == b) = false := by
    cases t <;> cases b <;> simp at ht hb ⊢
    · exact ht hb
    · exact hb ht
  obtain ⟨L4, h4, e8, k4, Y, y7, y8, z4, rfl, rfl⟩ := forL_num (ok := (Src.rg 0 6).ok) (g := .nm 4) (body := l1__law_many) (n := 6)
    (fun t L h' => ∃ k4 Y y7 y8 z4, L = Lm n size fs z4 y5 (some w) y7 y8 ∧ h' = Bx ds k4 ++ (X ++ Y)) (fun _ _ _ _ => trivial)
    (fun t L h' ht ⟨k4, Y, y7, y8, z4, e1, e2⟩ => by
      subst e1 e2
      obtain ⟨k', Y', y7', y8', e⟩ := many_l1 (ds := ds) (n := n) (k := k4) (size := size) (fs := fs) (s4 := some (.int (t : Int))) (s5 := y5) (s7 := y7) (s8 := y8) (X := X) (Y := Y) (w := w) hf (by omega) (by omega) hs (by omega) F
      exact ⟨Lm n size fs (some (.int (t : Int))) y5 (some w) y7 y8, rfl, _, _, .inl e, k', Y', y7', y8', _, rfl, rfl⟩)
    (L := Lm n size fs y4 y5 (some w) none none) (h := Bx ds k2 ++ X) ⟨k2, [], none, none, y4, rfl, by rw [List.append_nil]⟩
  refine ⟨gc (Bx ds k) (.bool true) (Bx ds k4 ++ (X ++ Y)), ?_⟩
  have e5' : mkTup [] = .d (encFs []) := rfl
  have e3 : iRange1 (eCall m__law_draw (aCons (eVar 0) (aCons (eCon (.int 61)) aNil))) (Lm n size [] none none none none none) (Bx ds (k + 1 + 1) ++ T) = .ok (.rg 0 q.toNat) (Bx ds (k + 3) ++ T) := by
    simp [Lm, d3]; omega
  have e9 : ∀ M, iRange1 (eCon (.int 6)) (Lm n size fs y4 y5 (some w) none none) M = .ok (.rg 0 6) M := fun M => by simp
  have s1 : (sAsg (.nm 1) (eOp2 opAdd (eCon (.int 5)) (eCall m__law_draw (aCons (eVar 0) (aCons (eCon (.int 26)) aNil))))) [some (.ref 1), none, none, none, none, none, none, none, none] (Bx ds k) = .nx [some (.ref 1), some (.int n), none, none, none, none, none, none, none] (Bx ds (k + 1)) := by
    simp [d1, hn]
  simp only [m__law_many, fn, b__law_many, List.length_cons, List.length_nil, if_true, List.map_cons, List.map_nil, List.replicate, List.cons_append, List.nil_append, Nat.reduceAdd, Nat.reduceSub]
  rw [sCons_eq, s1, Out.seq_nx, sCons_eq, e2, Out.seq_nx, sCons_eq, sAsg_eq, eTup_eq]
  simp only [aNil_eq, R.bind_ok, List.length_nil, Nat.zero_le, if_true, e5', R.then_ok, put_nm, Out.seq_nx, List.set_cons_succ, List.set_cons_zero]
  change tidy _ (outR _ (sCons (sFor _ _ _) _ (Lm n size [] none none none none none) _)) = _
  rw [sCons_eq, sFor_eq, e3, R.then_ok, items_rg, e4, Out.seq_nx, sCons_eq]
  have s5 : (sAsg (.nm 6) (eCall m__law_sums (aCons (eVar 3) (aCons (eVar 1) aNil)))) (Lm n size fs y4 y5 none none none) (Bx ds k2 ++ T) = .nx (Lm n size fs y4 y5 (some w) none none) (Bx ds k2 ++ X) := by
    simp [Lm, e5]
  rw [s5, Out.seq_nx, sCons_eq]
  have s6 : (sIf (tVal (eOp2 opEq (eOp2 (opIsN false) (eCall m_clash (aCons (eVar 3) aNil)) (eCon .non)) (eOp2 (opIsB false) (eVar 6) (eCon (.bool false))))) (sCons (sRet (eCon (.bool false))) sNil) sNil) (Lm n size fs y4 y5 (some w) none none) (Bx ds k2 ++ X) = .nx (Lm n size fs y4 y5 (some w) none none) (Bx ds k2 ++ X) := by
    simp [Lm, e7, q1, e6, eq_bool]
    intro htb'
    rw [htb'] at htb
    simp at htb
  rw [s6, Out.seq_nx, sCons_eq, sFor_eq, e9, R.then_ok, items_rg, e8]
  simp
end Sp
end

section
/-! Sv00: the law k00: few facts. -/
namespace Sp
open Mi Sem BF
open PySem (PyData Str)
theorem eq_nil_d {xs : List PyData} {neg : Bool} {a b : Nat} {M : Hh} (h : M[a]? = some (.lst (xs.map W.d))) (hb : M[b]? = some (.lst [])) : opEqB neg (.ref a) (.ref b) M = some (.bool (neg != xs.isEmpty), M) := by
  have e1 : dataW M dataDeep (.ref a) = some (.list xs) := by
    show dataW M 5 (.ref a) = _
    unfold dataW
    rw [h]
    simp only [mapM_dataW_d, Option.map_some]
  have e2 := data_ints (xs := []) (by simpa using hb)
  have : min (PyData.list xs).depth (PyData.list ([] : List PyData)).depth ≤ roomDeep := by
    refine Nat.le_trans (Nat.min_le_right _ _) ?_
    simp [PyData.depth, PyData.depthAll, roomDeep]
  simp only [opEqB, e1, e2, List.map_nil, this, if_true]
  cases xs <;> simp [PyData.eqv, PyData.eqvAll]
theorem ne_nil_gc {L : Loc} {M : Hh} {i a : Nat} {xs : List PyData} (hL : L[i]? = some (some (.ref a))) (h : M[a]? = some (.lst (xs.map W.d))) : eGc (eOp2 opNe (eVar i) (eLst aNil)) L M = .ok (.bool (!xs.isEmpty)) M := by
  refine eGc_ok (h' := M ++ [.lst []]) ?_ (by simp) List.take_left
  have := eq_nil_d (neg := true) (keep (T := [O.lst []]) h) app_at
  simp only [eOp2_eq, eVar_eq, hL, R.bind_ok, eLst_eq, aNil_eq, List.length_nil, Nat.zero_le, if_true]
  rw [show opNe = opEqB true from rfl, this]
  simp
theorem eq_nil_gc {L : Loc} {M : Hh} {i a : Nat} {xs : List PyData} (hL : L[i]? = some (some (.ref a))) (h : M[a]? = some (.lst (xs.map W.d))) : tGc (tVal (eOp2 opEq (eVar i) (eLst aNil))) L M = .ok xs.isEmpty M := by
  refine tGc_ok (h' := M ++ [.lst []]) ?_ List.take_left
  have := eq_nil_d (neg := false) (keep (T := [O.lst []]) h) app_at
  simp only [tVal_eq, eOp2_eq, eVar_eq, hL, R.bind_ok, eLst_eq, aNil_eq, List.length_nil, Nat.zero_le, if_true]
  rw [show opEq = opEqB false from rfl, this]
  simp
/-- a comprehension whose tests leave garbage -/
theorem eComp_junk {α : Type} {i : IM} {vs : List Nat} {g : Tg} {t : TM} {e : EM} {L : Loc} {h00 h0 : Hh} {enc : α → W} {s : Src} (p : α → Bool) (f : α → W) (xs : List α) (hi : i L h00 = .ok s h0) (hs : s.items = xs.map enc)
    (hok : ∀ G : Hh, s.ok (h0 ++ G)) (hl : xs.length ≤ 16777216)
    (hx : ∀ x ∈ xs, ∃ L1, g.put (enc x) (wipeL L vs) = some L1 ∧ ∀ G : Hh, ∃ G' : Hh, t L1 (h0 ++ G) = .ok (p x) (h0 ++ (G ++ G')) ∧ (p x = true → ∀ G : Hh, e L1 (h0 ++ G) = .ok (f x) (h0 ++ G))) :
    ∃ J, eComp i vs g t e L h00 = .ok (.ref h0.length) (h0 ++ .lst ((xs.filter p).map f) :: J) := by
  have go : ∀ (post : List α) (acc : List W) (J : Hh), (∀ x ∈ post, x ∈ xs) → acc.length + post.length ≤ 16777216 →
      ∃ J', compL s.ok vs g (fun L h => noEx (t L h)) (fun L h => noEx (e L h)) h0.length L (post.map enc) (h0 ++ .lst acc :: J) = .ok (.ref h0.length) (h0 ++ .lst (acc ++ (post.filter p).map f) :: J') := by
    intro post
    induction post with
    | nil => intro acc J _ _; exact ⟨J, by simp [compL, hok]⟩
    | cons x post ih =>
      intro acc J hm hl'
      rw [List.length_cons] at hl'
      obtain ⟨L1, hp, hx1⟩ := hx x (hm x List.mem_cons_self)
      obtain ⟨G', ht, he⟩ := hx1 (.lst acc :: J)
      rw [List.map_cons, compL, if_pos (hok _), hp]
      simp only [ht, noEx_ok, R.bind_ok]
      cases hpx : p x with
      | false =>
        rw [if_neg Bool.false_ne_true, List.filter_cons_of_neg (by simp [hpx])]
        exact ih acc (J ++ G') (fun y hy => hm y (List.mem_cons_of_mem _ hy)) (by omega)
      | true =>
        have hD : (h0 ++ (O.lst acc :: J ++ G'))[h0.length]? = some (.lst acc) := by rw [app_get0]; rfl
        have hset : (h0 ++ (O.lst acc :: J ++ G')).set h0.length (.lst (acc ++ [f x])) = h0 ++ .lst (acc ++ [f x]) :: (J ++ G') := by rw [app_set0]; rfl
        rw [if_pos rfl, he hpx, List.filter_cons_of_pos hpx]
        simp only [noEx_ok, R.bind_ok, hD, hset]
        rw [if_pos (by simp only [sizeMax]; omega)]
        obtain ⟨J', e'⟩ := ih (acc ++ [f x]) (J ++ G') (fun y hy => hm y (List.mem_cons_of_mem _ hy)) (by rw [List.length_append, List.length_singleton]; omega)
        exact ⟨J', by rw [e']; simp⟩
  rw [eComp_eq, hi, R.bind_ok, hs]
  have := go xs [] [] (fun _ h => h) (by simpa using hl)
  simpa using this
def Lw (ns : List Int) (n : Nat) (fs : List Fact) (s4 s5 s6 s7 s8 s9 s10 s11 : Option W) : Loc := [some (.d (encL ns)), some (.ref 1), some (.int n), some (.d (encFs fs)), s4, s5, s6, s7, s8, s9, s10, s11]
theorem few_l0 {ns ds : List Int} {n k : Nat} {fs : List Fact} {s4 s5 : Option W} (h0 : 2 ≤ n) (hl : fs.length ≤ 100) :
    ∃ f y5, l0_law (Lw ns n fs s4 s5 none none none none none none) (Bx ds k) = .nx (Lw ns n (fs ++ [f]) s4 y5 none none none none none none) (Bx ds (k + 3)) ∧ Fits n f ∧ -2 ≤ f.2.2 := by
  have d1 := draw_ok (ds := ds) (k := k) (T := []) (show (0 : Int) < n by omega)
  have d2 := draw_ok (ds := ds) (k := k + 1) (T := []) (show (0 : Int) < (n : Int) - 1 by omega)
  have d3 := draw_ok (ds := ds) (k := k + 2) (T := []) (show (0 : Int) < 5 by omega)
  have r1 := dr_range (ds := ds) (k := k) (show (0 : Int) < n by omega)
  have r3 := dr_range (ds := ds) (k := k + 2) (show (0 : Int) < 5 by omega)
  rw [List.append_nil, List.append_nil] at d1 d2 d3
  generalize dr ds k n = i at d1 r1
  generalize dr ds (k + 1) ((n : Int) - 1) = j at d2
  generalize dr ds (k + 2) 5 = c at d3 r3
  have r2 : 0 ≤ (i + 1 + j) % (n : Int) ∧ (i + 1 + j) % (n : Int) < n := ⟨Int.emod_nonneg _ (by omega), Int.emod_lt_of_pos _ (by omega)⟩
  generalize hz : (i + 1 + j) % (n : Int) = z at r2
  refine ⟨(i, z, c - 2), some (.int i), ?_, ⟨r1, r2⟩, by simp only; omega⟩
  have e2 : mkTup [.d (.int i), .d (.int z), .d (.int (c - 2))] = .d (encF (i, z, c - 2)) := rfl
  have e3 : mkTup [.d (encF (i, z, c - 2))] = .d (.tuple [encF (i, z, c - 2)]) := rfl
  simp only [l0_law, sCons_eq, sAsg_eq, eOp2_eq, eCall_eq, aCons_eq, aNil_eq, eVar_eq, eCon_eq, eOpN_eq, Lw, List.getElem?_cons_succ, List.getElem?_cons_zero, R.bind_ok, d1, add_int, sub_int, bInt_ok, mod_ok (show (0 : Int) < n by omega), hz, R.of_some, R.then_ok, put_nm, List.set_cons_succ, List.set_cons_zero, Out.seq_nx, eTup_eq, List.length_cons, List.length_nil, sizeMax, Nat.reduceAdd, Nat.reduceLeDiff, if_true, d2, d3, e2, e3, add_snoc (show fs.length < 16777216 by omega), sNil_eq]
/-- numbers as a row of all rows -/
theorem row_of_nums {n : Nat} {x : Int → Int} (h0 : 0 < n) (hz : x 0 = 0) (hx : ∀ u ∈ nms n, -9 ≤ x u ∧ x u ≤ 9) : (nms n).map x ∈ rowsN (n - 1) ∧ ∀ u : Int, 0 ≤ u ∧ u < n → val ((nms n).map x) u = x u := by
  refine ⟨mem_rowsN.mpr ⟨by simp; omega, ?_, fun y hy => ?_⟩, fun u hu => ?_⟩
  · obtain ⟨m, rfl⟩ : ∃ m, n = m + 1 := ⟨n - 1, by omega⟩
    simp [nms, List.range_succ_eq_map, hz]
  · obtain ⟨u, hu, rfl⟩ := List.mem_map.mp hy
    exact hx u hu
  · have hlt : u.toNat < n := by omega
    have e2 : ((u.toNat : Nat) : Int) = u := by omega
    simp [val, nms, hlt, e2]
theorem rows_fit {fs : List Fact} {j : Int} {n : Nat} (hf : ∀ f ∈ fs, Fits n f) (hg : Low j fs) (hF : Feas fs) (h0 : 0 < n) (hn : n ≤ 4) : ∃ r ∈ rowsN (n - 1), ∀ f ∈ fs, Sat (val r) f := by
  obtain ⟨x, hs, hz, hx⟩ := small hg hF (names_nms hf) (by simpa using hn) (mem_nms.mpr (by omega))
  obtain ⟨h1, h2⟩ := row_of_nums h0 hz hx
  refine ⟨_, h1, fun f hf' => ?_⟩
  obtain ⟨a, b⟩ := hf f hf'
  have := hs f hf'
  unfold Sat at this ⊢
  rw [h2 _ a, h2 _ b]
  exact this
theorem rows_len {n : Nat} (hn : n ≤ 4) : (rowsN (n - 1)).length ≤ 10000 := by
  match n, hn with
  | 0, _ => simp [rowsN]
  | 1, _ => simp [rowsN]
  | 2, _ => simp [rowsN, flat_len]
  | 3, _ => simp [rowsN, flat_len]
  | 4, _ => simp [rowsN, flat_len]
end Sp
end

section
/-! Sw00: the law k00: few facts, judged. -/
namespace Sp
open Mi Sem BF
open PySem (PyData Str)
/-- a row fulfils all -/
def fitB (fs : List Fact) (r : List Int) : Bool := fs.all fun f => decide (val r f.1 ≤ val r f.2.1 + f.2.2)
theorem fitB_iff {fs : List Fact} {r : List Int} : fitB fs r = true ↔ ∀ f ∈ fs, Sat (val r) f := by
  unfold fitB Sat
  rw [List.all_eq_true]
  exact ⟨fun h f hf => by simpa using h f hf, fun h f hf => by simpa using h f hf⟩
def good (fs : List Fact) (n : Nat) : List (List Int) := (rowsN (n - 1)).filter (fitB fs)
def bad (fs : List Fact) (f : Fact) (n : Nat) : List (List Int) := (good fs n).filter fun r => !fitB [f] r
theorem good_ne {fs : List Fact} {n : Nat} (hf : ∀ f ∈ fs, Fits n f) (hb : ∀ f ∈ fs, -2 ≤ f.2.2) (h0 : 0 < n) (hn : n ≤ 4) : good fs n ≠ [] ↔ Feas fs := by
  constructor
  · intro h
    obtain ⟨r, hr⟩ := List.exists_mem_of_ne_nil _ h
    exact ⟨val r, fitB_iff.mp (List.mem_filter.mp hr).2⟩
  · intro hF
    obtain ⟨r, hr, hs⟩ := rows_fit (j := 0) hf (fun f h => .inl (hb f h)) hF h0 hn
    exact List.ne_nil_of_mem (List.mem_filter.mpr ⟨hr, fitB_iff.mpr hs⟩)
theorem bad_ne {fs : List Fact} {n : Nat} {i j c : Int} (hf : ∀ f ∈ fs, Fits n f) (hi : Fits n (i, j, c)) (hb : ∀ f ∈ fs, -2 ≤ f.2.2) (hc : c ≤ 3) (h0 : 0 < n) (hn : n ≤ 4) : bad fs (i, j, c) n ≠ [] ↔ Feas (fs ++ [(j, i, 0 - c - 1)]) := by
  have neg : ∀ x : Int → Int, ¬ Sat x (i, j, c) ↔ Sat x (j, i, 0 - c - 1) := fun x => by unfold Sat; simp only; omega
  constructor
  · intro h
    obtain ⟨r, hr⟩ := List.exists_mem_of_ne_nil _ h
    obtain ⟨h1, h2⟩ := List.mem_filter.mp hr
    refine ⟨val r, fun f hf' => ?_⟩
    rcases List.mem_append.mp hf' with hf' | hf'
    · exact fitB_iff.mp (List.mem_filter.mp h1).2 f hf'
    · simp only [List.mem_singleton] at hf'; subst hf'
      refine (neg _).mp fun hs => ?_
      have : fitB [(i, j, c)] r = true := fitB_iff.mpr (fun f hf => by simp at hf; subst hf; exact hs)
      rw [this] at h2
      cases h2
  · intro hF
    obtain ⟨r, hr, hs⟩ := rows_fit (j := j) (n := n) (fs := fs ++ [(j, i, 0 - c - 1)]) (fun f hf' => by
      rcases List.mem_append.mp hf' with hf' | hf'
      · exact hf f hf'
      · simp only [List.mem_singleton] at hf'; subst hf'; exact ⟨hi.2, hi.1⟩) (fun f hf' => by
      rcases List.mem_append.mp hf' with hf' | hf'
      · exact .inl (hb f hf')
      · simp only [List.mem_singleton] at hf'; subst hf'; exact .inr ⟨rfl, by simp only; omega⟩) hF h0 hn
    refine List.ne_nil_of_mem (a := r) (List.mem_filter.mpr ⟨List.mem_filter.mpr ⟨hr, fitB_iff.mpr fun f hf => hs f (List.mem_append_left _ hf)⟩, ?_⟩)
    have : ¬ fitB [(i, j, c)] r = true := fun h => (neg _).mpr (hs (j, i, 0 - c - 1) (by simp)) (fitB_iff.mp h _ (by simp))
    simpa using this
theorem good_ok {ns : List Int} {fs : List Fact} {n a : Nat} {s4 s5 s6 : Option W} {M : Hh} (hf : ∀ f ∈ fs, Fits n f) (hl : fs.length ≤ 100) (h0 : 0 < n) (hn : n ≤ 4) (ha : M[a]? = some (.lst (wV (rowsN (n - 1))))) :
    eComp (iSeq (eVar 7)) [9] (.nm 9) (tVal (eCall m__law_fit (aCons (eVar 9) (aCons (eVar 3) aNil)))) (eVar 9) (Lw ns n fs s4 s5 s6 (some (.ref a)) none none none none) M = .ok (.ref M.length) (M ++ [.lst (wV (good fs n))]) :=
  eComp_pure (s := .ls a (wV (rowsN (n - 1)))) (enc := fun r => W.d (encV r)) (fitB fs) (fun r => W.d (encV r)) (rowsN (n - 1))
    (by simp only [iSeq_eq, eVar_eq, Lw, List.getElem?_cons_succ, List.getElem?_cons_zero, R.bind_ok, ha]) rfl (fun acc => keep ha) (by have := rows_len hn; simp [sizeMax]; omega)
    (fun r hr => ⟨Lw ns n fs s4 s5 s6 (some (.ref a)) none (some (.d (encV r))) none none, rfl, fun acc => ⟨by
      have hlen : r.length = n := by have := (mem_rowsN.mp hr).1; omega
      obtain ⟨b, e, hb⟩ := fit_tup (vs := r) (fs := fs) (h := M ++ [.lst acc]) (by rw [hlen]; exact hf) (by omega)
      have : b = fitB fs r := by rw [Bool.eq_iff_iff, hb, fitB_iff]
      subst this
      simp only [tVal_eq, eCall_eq, aCons_eq, aNil_eq, eVar_eq, Lw, List.getElem?_cons_succ, List.getElem?_cons_zero, R.bind_ok, e, asBool_bool], fun _ => rfl⟩⟩)
theorem bad_ok {ns : List Int} {fs : List Fact} {n a : Nat} {f : Fact} {s4 s5 s7 : Option W} {M : Hh} (hi : Fits n f) (h0 : 0 < n) (hn : n ≤ 4) (ha : M[a]? = some (.lst (wV (good fs n)))) :
    ∃ J, eComp (iSeq (eVar 8)) [9] (.nm 9) (tNot (tVal (eCall m__law_fit (aCons (eVar 9) (aCons (eLst (aCons (eVar 6) aNil)) aNil))))) (eVar 9) (Lw ns n fs s4 s5 (some (.d (encF f))) s7 (some (.ref a)) none none none) M = .ok (.ref M.length) (M ++ .lst (wV (bad fs f n)) :: J) := by
  have hlen : (good fs n).length ≤ 10000 := Nat.le_trans (List.length_filter_le _ _) (rows_len hn)
  exact eComp_junk (s := .ls a (wV (good fs n))) (enc := fun r => W.d (encV r)) (fun r => !fitB [f] r) (fun r => W.d (encV r)) (good fs n)
    (by simp only [iSeq_eq, eVar_eq, Lw, List.getElem?_cons_succ, List.getElem?_cons_zero, R.bind_ok, ha]) rfl (fun G => keep ha) (by omega)
    (fun r hr => ⟨Lw ns n fs s4 s5 (some (.d (encF f))) s7 (some (.ref a)) (some (.d (encV r))) none none, rfl, fun G => ⟨[.lst [.d (encF f)]], by
      have hlen : r.length = n := by have := (mem_rowsN.mp (List.mem_filter.mp hr).1).1; omega
      obtain ⟨b, e, hb⟩ := fit_one (vs := r) (f := f) (h := (M ++ G) ++ [.lst [.d (encF f)]]) (a := (M ++ G).length) (by rw [hlen]; exact hi) app_at
      have : b = fitB [f] r := by rw [Bool.eq_iff_iff, hb, fitB_iff]; simp
      subst this
      simp only [tNot_eq, tVal_eq, eCall_eq, aCons_eq, aNil_eq, eLst_eq, eVar_eq, Lw, List.getElem?_cons_succ, List.getElem?_cons_zero, R.bind_ok, List.length_cons, List.length_nil, sizeMax, Nat.reduceAdd, Nat.reduceLeDiff, if_true, e, asBool_bool]
      simp, fun _ G => rfl⟩⟩)
theorem wV_d (rows : List (List Int)) : wV rows = (rows.map encV).map W.d := by simp [wV]
/-- the row that proves -/
theorem proves_prv {fs : List Fact} {i j c : Int} {h : Hh} {row : List Nat} (hl : row.length < 64) (hP : Prv fs i j c row) : m_proves [.d (encFs fs), .d (encF (i, j, c)), .d (encR row)] h = .ok (.bool true) h := by
  obtain ⟨b, e, hT⟩ := proves_ok (fs := fs) (i := i) (j := j) (c := c) (h := h) (w := .d (encR row)) (fun xs e => by simp [encR] at e; subst e; simp; omega) (.inr ⟨_, rfl, fun x hx => by
    obtain ⟨p, _, rfl⟩ := List.mem_map.mp hx
    rfl⟩)
  have : b = true := hT.mpr ⟨row, rfl, (by
    rcases hP with ⟨s, kk, _⟩ | ⟨_, u, s, kk, _⟩
    · exact kk.places
    · exact kk.places), hP⟩
  rw [e, this]
/-- behind the rows: all that is asked -/
theorem few_tail {ns : List Int} {fs : List Fact} {n a8 a10 : Nat} {i j c : Int} {s4 s5 s7 : Option W} {M : Hh} (hf : ∀ f ∈ fs, Fits n f) (hi : Fits n (i, j, c)) (hb : ∀ f ∈ fs, -2 ≤ f.2.2) (hc : c ≤ 3) (h0 : 0 < n) (hn : n ≤ 4) (hl : fs.length ≤ 100)
    (h8 : M[a8]? = some (.lst (wV (good fs n)))) (h10 : M[a10]? = some (.lst (wV (bad fs (i, j, c) n)))) : ∃ M', 
    (sCons (sAsg (.nm 11) (eCall m_clash (aCons (eVar 3) aNil)))
  (sCons (sIf (tOr (tVal (eOp2 opNe (eOp2 (opIsN false) (eVar 11) (eCon .non)) (eGc (eOp2 opNe (eVar 8) (eLst aNil))))) (tAnd (tVal (eOp2 (opIsN true) (eVar 11) (eCon .non))) (tNot (tVal (eCall m_proves (aCons (eVar 3) (aCons (eTup (aCons (eCon (.int 0)) (aCons (eCon (.int 1)) (aCons (eOp1 opNeg (eCon (.int 999))) aNil)))) (aCons (eVar 11) aNil))))))))
  (sCons (sRet (eCon (.bool false)))
  sNil)
  sNil)
  (sCons (sAsg (.nm 11) (eCall m_chain (aCons (eVar 3) (aCons (eVar 6) aNil))))
  (sCons (sIf (tOr (tVal (eOp2 opNe (eOp2 (opIsN false) (eVar 11) (eCon .non)) (eGc (eOp2 opNe (eVar 10) (eLst aNil))))) (tAnd (tVal (eOp2 (opIsN true) (eVar 11) (eCon .non))) (tNot (tVal (eCall m_proves (aCons (eVar 3) (aCons (eVar 6) (aCons (eVar 11) aNil))))))))
  (sCons (sRet (eCon (.bool false)))
  sNil)
  sNil)
  (sCons (sAsg (.nm 11) (eCall m_numbers_for (aCons (eVar 3) (aCons (eVar 2) aNil))))
  (sCons (sIf (tGc (tVal (eOp2 opEq (eVar 8) (eLst aNil))))
  (sCons (sIf (tVal (eOp2 (opIsN true) (eVar 11) (eCon .non)))
  (sCons (sRet (eCon (.bool false)))
  sNil)
  sNil)
  sNil)
  (sCons (sIf (tOr (tNot (tVal (eCall m__law_right_numbers (aCons (eVar 11) (aCons (eVar 3) (aCons (eVar 2) aNil)))))) (tVal (eOp2 (opIsB true) (eCall m_fulfil (aCons (eVar 11) (aCons (eVar 3) aNil))) (eCon (.bool true)))))
  (sCons (sRet (eCon (.bool false)))
  sNil)
  sNil)
  sNil))
  (sCons (sAsg (.nm 11) (eCall m_against (aCons (eVar 3) (aCons (eVar 6) (aCons (eVar 2) aNil)))))
  (sCons (sIf (tGc (tVal (eOp2 opEq (eVar 10) (eLst aNil))))
  (sCons (sRet (eOp2 (opIsN false) (eVar 11) (eCon .non)))
  sNil)
  sNil)
  (sCons (sRet (eAnd (eCall m__law_right_numbers (aCons (eVar 11) (aCons (eVar 3) (aCons (eVar 2) aNil)))) (eAnd (eNot (eCall m__law_fit (aCons (eVar 11) (aCons (eLst (aCons (eVar 6) aNil)) aNil)))) (eOp2 (opIsB false) (eCall m_fulfil (aCons (eVar 11) (aCons (eTup (aCons (eVar 6) aNil)) aNil))) (eCon (.bool false))))))
  sNil)))))))))
    (Lw ns n fs s4 s5 (some (.d (encF (i, j, c)))) s7 (some (.ref a8)) none (some (.ref a10)) none) M = .rt (.bool true) M' := by
  have hU : (unk fs).length < 64 := Nat.lt_of_le_of_lt (unk_le hf h0) (by omega)
  have G := good_ne hf hb h0 hn
  have B := bad_ne hf hi hb hc h0 hn
  rw [wV_d] at h8 h10
  have n8 : ∀ s11, eGc (eOp2 opNe (eVar 8) (eLst aNil)) (Lw ns n fs s4 s5 (some (.d (encF (i, j, c)))) s7 (some (.ref a8)) none (some (.ref a10)) s11) M = _ := fun s11 => ne_nil_gc (i := 8) rfl h8
  have n10 : ∀ s11, eGc (eOp2 opNe (eVar 10) (eLst aNil)) (Lw ns n fs s4 s5 (some (.d (encF (i, j, c)))) s7 (some (.ref a8)) none (some (.ref a10)) s11) M = _ := fun s11 => ne_nil_gc (i := 10) rfl h10
  have m8 : ∀ s11, tGc (tVal (eOp2 opEq (eVar 8) (eLst aNil))) (Lw ns n fs s4 s5 (some (.d (encF (i, j, c)))) s7 (some (.ref a8)) none (some (.ref a10)) s11) M = _ := fun s11 => eq_nil_gc (i := 8) rfl h8
  have m10 : ∀ s11, tGc (tVal (eOp2 opEq (eVar 10) (eLst aNil))) (Lw ns n fs s4 s5 (some (.d (encF (i, j, c)))) s7 (some (.ref a8)) none (some (.ref a10)) s11) M = _ := fun s11 => eq_nil_gc (i := 10) rfl h10
  have ge : (((good fs n).map encV).isEmpty = true) ↔ ¬ Feas fs := by
    rw [← G]; cases good fs n <;> simp
  have be : (((bad fs (i, j, c) n).map encV).isEmpty = true) ↔ ¬ Feas (fs ++ [(j, i, 0 - c - 1)]) := by
    rw [← B]; cases bad fs (i, j, c) n <;> simp
  generalize ((good fs n).map encV).isEmpty = gb at *
  generalize ((bad fs (i, j, c) n).map encV).isEmpty = bb at *
  have stepA : ∃ w1, ∀ rest, (sCons (sAsg (.nm 11) (eCall m_clash (aCons (eVar 3) aNil)))
      (sCons (sIf (tOr (tVal (eOp2 opNe (eOp2 (opIsN false) (eVar 11) (eCon .non)) (eGc (eOp2 opNe (eVar 8) (eLst aNil))))) (tAnd (tVal (eOp2 (opIsN true) (eVar 11) (eCon .non))) (tNot (tVal (eCall m_proves (aCons (eVar 3) (aCons (eTup (aCons (eCon (.int 0)) (aCons (eCon (.int 1)) (aCons (eOp1 opNeg (eCon (.int 999))) aNil)))) (aCons (eVar 11) aNil))))))))
      (sCons (sRet (eCon (.bool false))) sNil) sNil) rest)) (Lw ns n fs s4 s5 (some (.d (encF (i, j, c)))) s7 (some (.ref a8)) none (some (.ref a10)) none) M = rest (Lw ns n fs s4 s5 (some (.d (encF (i, j, c)))) s7 (some (.ref a8)) none (some (.ref a10)) (some w1)) M := by
    rcases clash_ok (fs := fs) (h := M) (by omega) hU with ⟨e, hF⟩ | ⟨row, u, s, e, k1, k2, k3, k4⟩
    · have g : gb = false := by
        rw [Bool.eq_false_iff]; exact fun h => ge.mp h hF
      subst g
      refine ⟨.non, fun rest => ?_⟩
      have q := n8 (some .non)
      simp only [sCons_eq, sAsg_eq, eCall_eq, aCons_eq, aNil_eq, eVar_eq, Lw, List.getElem?_cons_succ, List.getElem?_cons_zero, R.bind_ok, e, R.then_ok, put_nm, List.set_cons_succ, List.set_cons_zero, Out.seq_nx, sIf_eq, tOr_eq, tVal_eq, eOp2_eq (opNe), eOp2_eq (opIsN false), eOp2_eq (opIsN true), eCon_eq, opIsN, isN, R.of_some, tAnd_eq] at q ⊢
      rw [q]
      simp [eq_bool]
    · have g : gb = true := ge.mpr fun hF => by have := hF.cycle k1; omega
      subst g
      refine ⟨.d (encR row), fun rest => ?_⟩
      have q := n8 (some (.d (encR row)))
      have pr := proves_prv (fs := fs) (i := 0) (j := 1) (c := -999) (h := M) (row := row) (by omega) (.inr ⟨k2, u, s, k1, k3⟩)
      have e3 : mkTup [.d (.int 0), .d (.int 1), .d (.int (-999))] = .d (encF (0, 1, -999)) := rfl
      have z1 : ∀ neg, opIsN neg (.d (encR row)) (.d .none) M = some (.bool (neg != false), M) := fun neg => rfl
      simp only [sCons_eq, sAsg_eq, eCall_eq, aCons_eq, aNil_eq, eVar_eq, Lw, List.getElem?_cons_succ, List.getElem?_cons_zero, R.bind_ok, e, R.then_ok, put_nm, List.set_cons_succ, List.set_cons_zero, Out.seq_nx, sIf_eq, tOr_eq, tVal_eq, eOp2_eq (opNe), eOp2_eq (opIsN false), eOp2_eq (opIsN true), eCon_eq, z1, R.of_some, tAnd_eq] at q ⊢
      rw [q]
      have z2 : ∀ neg, opIsN neg (.d (encR row)) .non M = some (.bool (neg != false), M) := fun neg => rfl
      simp [eq_bool, sizeMax, opNeg, e3, pr, z2]
  have stepB : ∀ s11, ∃ w1, ∀ rest, (sCons (sAsg (.nm 11) (eCall m_chain (aCons (eVar 3) (aCons (eVar 6) aNil))))
      (sCons (sIf (tOr (tVal (eOp2 opNe (eOp2 (opIsN false) (eVar 11) (eCon .non)) (eGc (eOp2 opNe (eVar 10) (eLst aNil))))) (tAnd (tVal (eOp2 (opIsN true) (eVar 11) (eCon .non))) (tNot (tVal (eCall m_proves (aCons (eVar 3) (aCons (eVar 6) (aCons (eVar 11) aNil))))))))
      (sCons (sRet (eCon (.bool false))) sNil) sNil) rest)) (Lw ns n fs s4 s5 (some (.d (encF (i, j, c)))) s7 (some (.ref a8)) none (some (.ref a10)) s11) M = rest (Lw ns n fs s4 s5 (some (.d (encF (i, j, c)))) s7 (some (.ref a8)) none (some (.ref a10)) (some w1)) M := fun s11 => by
    obtain ⟨w1, e, A⟩ := chain_ok (fs := fs) (h := M) (i := i) (j := j) (c := c) (by omega) hU
    refine ⟨w1, fun rest => ?_⟩
    have q := n10 (some w1)
    rcases A.prv with rfl | ⟨row, rfl, hP, hrl⟩
    · have g : bb = false := by
        rw [Bool.eq_false_iff]
        refine fun h => be.mp h ?_
        cases A with
        | none hF hw => exact feas_add (names_nms hf) hF hw
      subst g
      simp only [sCons_eq, sAsg_eq, eCall_eq, aCons_eq, aNil_eq, eVar_eq, Lw, List.getElem?_cons_succ, List.getElem?_cons_zero, R.bind_ok, e, R.then_ok, put_nm, List.set_cons_succ, List.set_cons_zero, Out.seq_nx, sIf_eq, tOr_eq, tVal_eq, eOp2_eq (opNe), eOp2_eq (opIsN false), eOp2_eq (opIsN true), eCon_eq, opIsN, isN, R.of_some, tAnd_eq] at q ⊢
      rw [q]
      simp [eq_bool]
    · have g : bb = true := be.mpr fun ⟨x, hx⟩ => by
        have h1 := hP.sat (x := x) (fun f hf => hx f (List.mem_append_left _ hf))
        have h2 := hx (j, i, 0 - c - 1) (by simp)
        unfold Sat at h1 h2
        simp only at h1 h2
        omega
      subst g
      have pr := proves_prv (fs := fs) (i := i) (j := j) (c := c) (h := M) (row := row) hrl hP
      have z1 : ∀ neg, opIsN neg (.d (encR row)) (.d .none) M = some (.bool (neg != false), M) := fun neg => rfl
      simp only [sCons_eq, sAsg_eq, eCall_eq, aCons_eq, aNil_eq, eVar_eq, Lw, List.getElem?_cons_succ, List.getElem?_cons_zero, R.bind_ok, e, R.then_ok, put_nm, List.set_cons_succ, List.set_cons_zero, Out.seq_nx, sIf_eq, tOr_eq, tVal_eq, eOp2_eq (opNe), eOp2_eq (opIsN false), eOp2_eq (opIsN true), eCon_eq, z1, R.of_some, tAnd_eq] at q ⊢
      rw [q]
      have z2 : ∀ neg, opIsN neg (.d (encR row)) .non M = some (.bool (neg != false), M) := fun neg => rfl
      simp [eq_bool, pr, z2]
  have stepC : ∀ s11, ∃ w1, ∀ rest, (sCons (sAsg (.nm 11) (eCall m_numbers_for (aCons (eVar 3) (aCons (eVar 2) aNil))))
      (sCons (sIf (tGc (tVal (eOp2 opEq (eVar 8) (eLst aNil))))
      (sCons (sIf (tVal (eOp2 (opIsN true) (eVar 11) (eCon .non))) (sCons (sRet (eCon (.bool false))) sNil) sNil) sNil)
      (sCons (sIf (tOr (tNot (tVal (eCall m__law_right_numbers (aCons (eVar 11) (aCons (eVar 3) (aCons (eVar 2) aNil)))))) (tVal (eOp2 (opIsB true) (eCall m_fulfil (aCons (eVar 11) (aCons (eVar 3) aNil))) (eCon (.bool true))))) (sCons (sRet (eCon (.bool false))) sNil) sNil) sNil)) rest))
      (Lw ns n fs s4 s5 (some (.d (encF (i, j, c)))) s7 (some (.ref a8)) none (some (.ref a10)) s11) M = rest (Lw ns n fs s4 s5 (some (.d (encF (i, j, c)))) s7 (some (.ref a8)) none (some (.ref a10)) (some w1)) M := fun s11 => by
    obtain ⟨w1, e, N⟩ := numbers_ok (fs := fs) (h := M) (n := n) hf (by omega) h0 (by omega)
    refine ⟨w1, fun rest => ?_⟩
    have q := m8 (some w1)
    have s1 : (sAsg (.nm 11) (eCall m_numbers_for (aCons (eVar 3) (aCons (eVar 2) aNil)))) (Lw ns n fs s4 s5 (some (.d (encF (i, j, c)))) s7 (some (.ref a8)) none (some (.ref a10)) s11) M = .nx (Lw ns n fs s4 s5 (some (.d (encF (i, j, c)))) s7 (some (.ref a8)) none (some (.ref a10)) (some w1)) M := by
      simp [Lw, e]
    rw [sCons_eq, s1, Out.seq_nx, sCons_eq, sIf_eq, q, R.then_ok]
    cases N with
    | none hF =>
      have g : gb = true := ge.mpr hF
      subst g
      simp [Lw, opIsN, isN]
    | @some vs hv hh hs =>
      have g : gb = false := by
        rw [Bool.eq_false_iff]; exact fun h => ge.mp h ⟨_, hs⟩
      subst g
      have rg := right_ok (fs := fs) (h := M) hf (by omega) (by omega) hv hh hs
      obtain ⟨b, ef, hb'⟩ := fulfil_ok (vs := vs) (fs := fs) (h := M) (by rw [hv]; exact hf) (by omega)
      have : b = true := hb'.mpr hs
      subst this
      simp [Lw, rg, ef, opIsB]
  have stepD : ∀ s11, ∃ M', (sCons (sAsg (.nm 11) (eCall m_against (aCons (eVar 3) (aCons (eVar 6) (aCons (eVar 2) aNil)))))
      (sCons (sIf (tGc (tVal (eOp2 opEq (eVar 10) (eLst aNil)))) (sCons (sRet (eOp2 (opIsN false) (eVar 11) (eCon .non))) sNil) sNil)
      (sCons (sRet (eAnd (eCall m__law_right_numbers (aCons (eVar 11) (aCons (eVar 3) (aCons (eVar 2) aNil)))) (eAnd (eNot (eCall m__law_fit (aCons (eVar 11) (aCons (eLst (aCons (eVar 6) aNil)) aNil)))) (eOp2 (opIsB false) (eCall m_fulfil (aCons (eVar 11) (aCons (eTup (aCons (eVar 6) aNil)) aNil))) (eCon (.bool false)))))) sNil)))
      (Lw ns n fs s4 s5 (some (.d (encF (i, j, c)))) s7 (some (.ref a8)) none (some (.ref a10)) s11) M = .rt (.bool true) M' := fun s11 => by
    obtain ⟨w1, e, N⟩ := against_ok (fs := fs) (h := M) (n := n) hf hi (by omega) h0 (by omega)
    have q := m10 (some w1)
    have s1 : (sAsg (.nm 11) (eCall m_against (aCons (eVar 3) (aCons (eVar 6) (aCons (eVar 2) aNil))))) (Lw ns n fs s4 s5 (some (.d (encF (i, j, c)))) s7 (some (.ref a8)) none (some (.ref a10)) s11) M = .nx (Lw ns n fs s4 s5 (some (.d (encF (i, j, c)))) s7 (some (.ref a8)) none (some (.ref a10)) (some w1)) M := by
      simp [Lw, e]
    rw [sCons_eq, s1, Out.seq_nx, sCons_eq, sIf_eq, q, R.then_ok]
    cases N with
    | none hF =>
      have g : bb = true := be.mpr hF
      subst g
      exact ⟨M, by simp [Lw, opIsN, isN]⟩
    | @some vs hv hh hs =>
      have g : bb = false := by
        rw [Bool.eq_false_iff]; exact fun h => be.mp h ⟨_, hs⟩
      subst g
      have rg := right_ok (fs := fs) (h := M) hf (by omega) (by omega) hv hh (fun f hf' => hs f (List.mem_append_left _ hf'))
      have x2 := hs (j, i, 0 - c - 1) (by simp)
      have ns' : ¬ Sat (val vs) (i, j, c) := fun x1 => by
        unfold Sat at x1 x2
        simp only at x1 x2
        omega
      obtain ⟨b1, e1, hb1⟩ := fit_one (vs := vs) (f := (i, j, c)) (h := M ++ [.lst [.d (encF (i, j, c))]]) (a := M.length) (by rw [hv]; exact hi) app_at
      have t1 : b1 = false := by rw [Bool.eq_false_iff]; exact fun h => ns' (hb1.mp h)
      subst t1
      obtain ⟨b2, e2, hb2⟩ := fulfil_ok (vs := vs) (fs := [(i, j, c)]) (h := M ++ [.lst [.d (encF (i, j, c))]]) (by rw [hv]; intro f hf; simp at hf; subst hf; exact hi) (by simp)
      have t2 : b2 = false := by rw [Bool.eq_false_iff]; exact fun h => ns' (hb2.mp h _ (by simp))
      subst t2
      have eF : mkTup [.d (encF (i, j, c))] = .d (encFs [(i, j, c)]) := rfl
      refine ⟨M ++ [.lst [.d (encF (i, j, c))]], ?_⟩
      simp [Lw, rg, sizeMax, e1, eF, e2, opIsB]
  obtain ⟨w1, a1⟩ := stepA
  obtain ⟨w2, a2⟩ := stepB (some w1)
  obtain ⟨w3, a3⟩ := stepC (some w2)
  obtain ⟨M', a4⟩ := stepD (some w3)
  exact ⟨M', by rw [a1, a2, a3, a4]⟩
end Sp
end

section
/-! Sx00: the law k00. -/
namespace Spec
open Mi Sem BF Sp
open PySem (PyData Str)
theorem law_ok : ∀ ns : List Int, ns.length ≤ 63 → ∃ M', Sem.m_law [.d (.list (ns.map .int))] [] = .ok (.bool true) M' := by
  intro ns _
  obtain ⟨ds, eb⟩ := box_ok (ns := ns) (L := [some (.d (encL ns)), none, none, none, none, none, none, none, none, none, none, none]) (i := 0) rfl
  have d1 := draw_ok (ds := ds) (k := 0) (T := []) (show (0 : Int) < 3 by omega)
  rw [List.append_nil, List.append_nil] at d1
  generalize dr ds 0 3 = q0 at d1
  have go : ∃ M', b_law [some (.d (encL ns)), none, none, none, none, none, none, none, none, none, none, none] [] = .rt (.bool true) M' := by
    have s1 : (sAsg (.nm 1) (eLst (aCons (eCall m__law_digits (aCons (eVar 0) (aCons (eCon (.int 0)) (aCons (eCon (.int 63)) aNil)))) (aCons (eCon (.int 0)) aNil)))) [some (.d (encL ns)), none, none, none, none, none, none, none, none, none, none, none] [] = .nx [some (.d (encL ns)), some (.ref 1), none, none, none, none, none, none, none, none, none, none] (Bx ds 0) := by
      rw [sAsg_eq, eb]; rfl
    rw [b_law, sCons_eq, s1, Out.seq_nx, sCons_eq]
    by_cases hq : q0 = 0
    · subst hq
      obtain ⟨h', e⟩ := many_ok (ds := ds) (k := 1)
      exact ⟨h', by simp [d1, e]⟩
    · have s2 : (sIf (tVal (eOp2 opEq (eCall m__law_draw (aCons (eVar 1) (aCons (eCon (.int 3)) aNil))) (eCon (.int 0)))) (sCons (sRet (eCall m__law_many (aCons (eVar 1) aNil))) sNil) sNil) [some (.d (encL ns)), some (.ref 1), none, none, none, none, none, none, none, none, none, none] (Bx ds 0) = .nx [some (.d (encL ns)), some (.ref 1), none, none, none, none, none, none, none, none, none, none] (Bx ds 1) := by
        simp [d1, hq]
      rw [s2, Out.seq_nx]
      have d2 := draw_ok (ds := ds) (k := 1) (T := []) (show (0 : Int) < 3 by omega)
      have r2 := dr_range (ds := ds) (k := 1) (show (0 : Int) < 3 by omega)
      rw [List.append_nil, List.append_nil] at d2
      generalize dr ds 1 3 = q1 at d2 r2
      obtain ⟨n, hn⟩ : ∃ n : Nat, 2 + q1 = n := ⟨(2 + q1).toNat, by omega⟩
      have hn2 : 2 ≤ n ∧ n ≤ 4 := by omega
      have s3 : ∀ rest, (sCons (sAsg (.nm 2) (eOp2 opAdd (eCon (.int 2)) (eCall m__law_draw (aCons (eVar 1) (aCons (eCon (.int 3)) aNil))))) (sCons (sAsg (.nm 3) (eTup aNil)) rest)) [some (.d (encL ns)), some (.ref 1), none, none, none, none, none, none, none, none, none, none] (Bx ds 1) = rest (Lw ns n [] none none none none none none none none) (Bx ds 2) := fun rest => by
        have e5 : mkTup [] = .d (encFs []) := rfl
        simp [d2, hn, e5, Lw]
      rw [s3, sCons_eq, sFor_eq]
      -- how many facts
      obtain ⟨m, hm, em⟩ : ∃ m : Int, (0 < m ∧ m ≤ 7) ∧ eGc (eOp2 opIx (eLst (aCons (eCon (.int 7)) (aCons (eCon (.int 7)) (aCons (eCon (.int 5)) aNil)))) (eOp2 opSub (eVar 2) (eCon (.int 2)))) (Lw ns n [] none none none none none none none none) (Bx ds 2) = .ok (.int m) (Bx ds 2) := by
        have step : ∀ m : Int, opIx (.ref 2) (.d (.int ((n : Int) - 2))) (Bx ds 2 ++ [.lst [.int 7, .int 7, .int 5]]) = some (.int m, Bx ds 2 ++ [.lst [.int 7, .int 7, .int 5]]) → eGc (eOp2 opIx (eLst (aCons (eCon (.int 7)) (aCons (eCon (.int 7)) (aCons (eCon (.int 5)) aNil)))) (eOp2 opSub (eVar 2) (eCon (.int 2)))) (Lw ns n [] none none none none none none none none) (Bx ds 2) = .ok (.int m) (Bx ds 2) := fun m e => by
          refine eGc_ok (h' := Bx ds 2 ++ [.lst [.int 7, .int 7, .int 5]]) ?_ (by simp) List.take_left
          have l2 : (Bx ds 2).length = 2 := rfl
          simp only [eOp2_eq, eLst_eq, aCons_eq, aNil_eq, eCon_eq, R.bind_ok, List.length_cons, List.length_nil, sizeMax, Nat.reduceAdd, Nat.reduceLeDiff, if_true, eVar_eq, Lw, List.getElem?_cons_succ, List.getElem?_cons_zero, sub_int, R.of_some, l2, e]
        have g : (Bx ds 2 ++ [O.lst [.int 7, .int 7, .int 5]])[2]? = some (.lst [.int 7, .int 7, .int 5]) := rfl
        have hc : n = 2 ∨ n = 3 ∨ n = 4 := by omega
        rcases hc with rfl | rfl | rfl
        · exact ⟨7, by omega, step 7 (opIx_lst (n := 0) g rfl)⟩
        · exact ⟨7, by omega, step 7 (opIx_lst (n := 1) g rfl)⟩
        · exact ⟨5, by omega, step 5 (opIx_lst (n := 2) g rfl)⟩
      have d3 := draw_ok (ds := ds) (k := 2) (T := []) (show 0 < m by omega)
      have r3 := dr_range (ds := ds) (k := 2) (show 0 < m by omega)
      rw [List.append_nil, List.append_nil] at d3
      generalize dr ds 2 m = q at d3 r3
      have e3 : iRange1 (eCall m__law_draw (aCons (eVar 1) (aCons (eGc (eOp2 opIx (eLst (aCons (eCon (.int 7)) (aCons (eCon (.int 7)) (aCons (eCon (.int 5)) aNil)))) (eOp2 opSub (eVar 2) (eCon (.int 2))))) aNil))) (Lw ns n [] none none none none none none none none) (Bx ds 2) = .ok (.rg 0 q.toNat) (Bx ds 3) := by
        simp only [Lw] at em
        simp only [iRange1_eq, eCall_eq, aCons_eq, eVar_eq, Lw, List.getElem?_cons_succ, List.getElem?_cons_zero, R.bind_ok, em, aNil_eq, d3]
        rw [if_pos (by omega)]
      obtain ⟨L2, h2, e4, fs, k2, y4, y5, rfl, rfl, hlen, hfit⟩ := forL_num (ok := (Src.rg 0 q.toNat).ok) (g := .nm 4) (body := l0_law) (n := q.toNat)
        (fun t L h' => ∃ fs k2 y4 y5, L = Lw ns n fs y4 y5 none none none none none none ∧ h' = Bx ds k2 ∧ fs.length = t ∧ ∀ f ∈ fs, Fits n f ∧ -2 ≤ f.2.2) (fun _ _ _ _ => trivial)
        (fun t L h' ht ⟨fs, k2, y4, y5, e1, e2, hl, hf⟩ => by
          subst e1 e2
          obtain ⟨f, z5, e, f1, f2⟩ := few_l0 (ns := ns) (ds := ds) (n := n) (k := k2) (fs := fs) (s4 := some (.int (t : Int))) (s5 := y5) hn2.1 (by omega)
          exact ⟨Lw ns n fs (some (.int (t : Int))) y5 none none none none none none, rfl, _, _, .inl e, fs ++ [f], k2 + 3, _, _, rfl, rfl, by simp [hl], fun g hg => by
            rcases List.mem_append.mp hg with hg | hg
            · exact hf g hg
            · simp at hg; subst hg; exact ⟨f1, f2⟩⟩)
        (L := Lw ns n [] none none none none none none none none) (h := Bx ds 3) ⟨[], 3, none, none, rfl, rfl, rfl, fun f hf => by cases hf⟩
      rw [e3, R.then_ok, items_rg, e4, Out.seq_nx]
      -- a further fact
      have d5 := draw_ok (ds := ds) (k := k2) (T := []) (show (0 : Int) < n by omega)
      have d6 := draw_ok (ds := ds) (k := k2 + 1) (T := []) (show (0 : Int) < n by omega)
      have d7 := draw_ok (ds := ds) (k := k2 + 2) (T := []) (show (0 : Int) < 7 by omega)
      have r5 := dr_range (ds := ds) (k := k2) (show (0 : Int) < n by omega)
      have r6 := dr_range (ds := ds) (k := k2 + 1) (show (0 : Int) < n by omega)
      have r7 := dr_range (ds := ds) (k := k2 + 2) (show (0 : Int) < 7 by omega)
      rw [List.append_nil, List.append_nil] at d5 d6 d7
      generalize dr ds k2 n = i at d5 r5
      generalize dr ds (k2 + 1) n = j at d6 r6
      generalize dr ds (k2 + 2) 7 = c at d7 r7
      have s6 : (sAsg (.nm 6) (eTup (aCons (eCall m__law_draw (aCons (eVar 1) (aCons (eVar 2) aNil))) (aCons (eCall m__law_draw (aCons (eVar 1) (aCons (eVar 2) aNil))) (aCons (eOp2 opSub (eCall m__law_draw (aCons (eVar 1) (aCons (eCon (.int 7)) aNil))) (eCon (.int 3))) aNil))))) (Lw ns n fs y4 y5 none none none none none none) (Bx ds k2) =
          .nx (Lw ns n fs y4 y5 (some (.d (encF (i, j, c - 3)))) none none none none none) (Bx ds (k2 + 3)) := by
        have e2 : mkTup [.d (.int i), .d (.int j), .d (.int (c - 3))] = .d (encF (i, j, c - 3)) := rfl
        simp [Lw, d5, d6, d7, e2, sizeMax]
      rw [sCons_eq, s6, Out.seq_nx]
      obtain ⟨a, T, e7, ha, -⟩ := all_rows_ok (n := n) (h := Bx ds (k2 + 3)) (by omega) hn2.2
      have hf : ∀ f ∈ fs, Fits n f := fun f h => (hfit f h).1
      have hi : Fits n (i, j, c - 3) := ⟨r5, r6⟩
      have s7 : (sAsg (.nm 7) (eCall m__law_all_rows (aCons (eVar 2) (aCons (eCon (.int 9)) aNil)))) (Lw ns n fs y4 y5 (some (.d (encF (i, j, c - 3)))) none none none none none) (Bx ds (k2 + 3)) = .nx (Lw ns n fs y4 y5 (some (.d (encF (i, j, c - 3)))) (some (.ref a)) none none none none) (Bx ds (k2 + 3) ++ T) := by
        simp [Lw, e7]
      rw [sCons_eq, s7, Out.seq_nx]
      generalize Bx ds (k2 + 3) ++ T = M at ha
      have eg := good_ok (ns := ns) (fs := fs) (n := n) (a := a) (s4 := y4) (s5 := y5) (s6 := some (.d (encF (i, j, c - 3)))) (M := M) hf (by omega) (by omega) hn2.2 ha
      rw [sCons_eq, sAsg_eq, eg, R.then_ok]
      simp only [put_nm, Out.seq_nx]
      rw [show (Lw ns n fs y4 y5 (some (.d (encF (i, j, c - 3)))) (some (.ref a)) none none none none).set 8 (some (.ref M.length)) = Lw ns n fs y4 y5 (some (.d (encF (i, j, c - 3)))) (some (.ref a)) (some (.ref M.length)) none none none from rfl]
      obtain ⟨J, ej⟩ := bad_ok (ns := ns) (fs := fs) (n := n) (a := M.length) (f := (i, j, c - 3)) (s4 := y4) (s5 := y5) (s7 := some (.ref a)) (M := M ++ [.lst (wV (good fs n))]) hi (by omega) hn2.2 app_at
      rw [sCons_eq, sAsg_eq, ej, R.then_ok]
      simp only [put_nm, Out.seq_nx]
      rw [show (Lw ns n fs y4 y5 (some (.d (encF (i, j, c - 3)))) (some (.ref a)) (some (.ref M.length)) none none none).set 10 (some (.ref (M ++ [O.lst (wV (good fs n))]).length)) = Lw ns n fs y4 y5 (some (.d (encF (i, j, c - 3)))) (some (.ref a)) (some (.ref M.length)) none (some (.ref (M ++ [O.lst (wV (good fs n))]).length)) none from rfl]
      exact few_tail hf hi (fun f h => (hfit f h).2) (by omega) (by omega) hn2.2 (by omega) (keep app_at) (by rw [app_get0]; rfl)
  obtain ⟨M', e⟩ := go
  refine ⟨gc [] (.bool true) M', ?_⟩
  rw [show Sem.m_law = fn 1 12 b_law from rfl, fn]
  simp only [List.length_cons, List.length_nil, if_true, List.map_cons, List.map_nil, List.replicate, List.cons_append, List.nil_append, Nat.reduceAdd, Nat.reduceSub]
  change tidy [] (outR [] (b_law [some (.d (encL ns)), none, none, none, none, none, none, none, none, none, none, none] [])) = _
  rw [e]; rfl
end Spec
end

section
set_option maxHeartbeats 4000000
namespace Wk
open PySem PySem.Spec PyProof.Rows L2 Mi Sem
def top (i : Nat) : Stmt := PySem.Challenge.pw_claimfall_k00_follows_by_numbers.main.body.getD i (.Pass ⟨0, 0, 0, 0⟩)
abbrev s_is_integer : Stmt := top 1
abbrev s_unknowns_of : Stmt := top 2
abbrev s_relaxed : Stmt := top 3
abbrev s_walked_round : Stmt := top 4
abbrev s_clash : Stmt := top 5
abbrev s_sums_to : Stmt := top 6
abbrev s_chain : Stmt := top 7
abbrev s_goes_on : Stmt := top 8
abbrev s_proves : Stmt := top 9
abbrev s_fulfil : Stmt := top 10
abbrev s_numbers_for : Stmt := top 11
abbrev s_against : Stmt := top 12
abbrev s__law_cell : Stmt := top 14
abbrev s__law_digits : Stmt := top 15
abbrev s__law_draw : Stmt := top 16
abbrev s__law_all_rows : Stmt := top 17
abbrev s__law_fit : Stmt := top 18
abbrev s__law_right_numbers : Stmt := top 19
abbrev s__law_sums : Stmt := top 20
abbrev s__law_follows : Stmt := top 21
abbrev s__law_many : Stmt := top 22
abbrev s_law : Stmt := top 23
structure Txt (K : Fr) (mg : Mg) : Prop where
  d_is_integer : Dx K mg "is_integer" s_is_integer
  d_unknowns_of : Dx K mg "unknowns_of" s_unknowns_of
  d_relaxed : Dx K mg "relaxed" s_relaxed
  d_walked_round : Dx K mg "walked_round" s_walked_round
  d_clash : Dx K mg "clash" s_clash
  d_sums_to : Dx K mg "sums_to" s_sums_to
  d_chain : Dx K mg "chain" s_chain
  d_goes_on : Dx K mg "goes_on" s_goes_on
  d_proves : Dx K mg "proves" s_proves
  d_fulfil : Dx K mg "fulfil" s_fulfil
  d_numbers_for : Dx K mg "numbers_for" s_numbers_for
  d_against : Dx K mg "against" s_against
  d__law_cell : Dx K mg "_law_cell" s__law_cell
  d__law_digits : Dx K mg "_law_digits" s__law_digits
  d__law_draw : Dx K mg "_law_draw" s__law_draw
  d__law_all_rows : Dx K mg "_law_all_rows" s__law_all_rows
  d__law_fit : Dx K mg "_law_fit" s__law_fit
  d__law_right_numbers : Dx K mg "_law_right_numbers" s__law_right_numbers
  d__law_sums : Dx K mg "_law_sums" s__law_sums
  d__law_follows : Dx K mg "_law_follows" s__law_follows
  d__law_many : Dx K mg "_law_many" s__law_many
  d_law : Dx K mg "law" s_law
  n_bool : mg "bool" = none
  n_dict : mg "dict" = none
  n_int : mg "int" = none
  n_isinstance : mg "isinstance" = none
  n_len : mg "len" = none
  n_min : mg "min" = none
  n_range : mg "range" = none
  n_sorted : mg "sorted" = none
  n_tuple : mg "tuple" = none
section
variable {P : Program} {w : World} {K : Fr} {mg : Mg} {base : Heap}
theorem sc_is_integer : FnScope ["thing"] ["thing"] (defScope s_is_integer) := ⟨rfl, rfl, rfl, by decide +kernel, rfl, by decide +kernel, by decide +kernel⟩
theorem bd_is_integer : BindsOk "is_integer" s_is_integer ["thing"] := fun _ _ _ _ _ _ us hl => match us, hl with | [_], _ => rfl
theorem t_is_integer (T : Txt K mg) : FnT P w K mg base "is_integer" 1 m_is_integer := .mk (k := 0) (N := ["thing"]) (ps := ["thing"]) T.d_is_integer sc_is_integer bd_is_integer <| fun f cdv A outer s H E hr => by
  have tk := takes_of (X := cxOf (L2.CX P w) P w K mg base ["thing"] "is_integer" (defScope s_is_integer) f cdv A outer s H E) (E := E) rfl rfl rfl rfl
  exact (mss_cons (ms_ret (me_and (me_isI (T := "int") (by rfl) T.n_isinstance (me_var 0) (by rfl) T.n_int) (me_one (me_not (me_isI (T := "bool") (by rfl) T.n_isinstance (me_var 0) (by rfl) T.n_bool)))))
  mss_nil)
theorem sc_unknowns_of : FnScope ["facts", "found", "i", "j", "c", "unknown"] ["facts"] (defScope s_unknowns_of) := ⟨rfl, rfl, rfl, by decide +kernel, rfl, by decide +kernel, by decide +kernel⟩
theorem bd_unknowns_of : BindsOk "unknowns_of" s_unknowns_of ["facts"] := fun _ _ _ _ _ _ us hl => match us, hl with | [_], _ => rfl
theorem t_unknowns_of (T : Txt K mg) : FnT P w K mg base "unknowns_of" 1 m_unknowns_of := .mk (k := 0) (N := ["facts", "found", "i", "j", "c", "unknown"]) (ps := ["facts"]) T.d_unknowns_of sc_unknowns_of bd_unknowns_of <| fun f cdv A outer s H E hr => by
  have tk := takes_of (X := cxOf (L2.CX P w) P w K mg base ["facts", "found", "i", "j", "c", "unknown"] "unknowns_of" (defScope s_unknowns_of) f cdv A outer s H E) (E := E) rfl rfl rfl rfl
  exact (mss_cons (ms_set 1 sc_unknowns_of.nd (me_lst (ma_cons me_int ma_nil)))
  (mss_cons (ms_for (passes_of rfl) rfl (mi_seq (me_var 0)) (mg_tup rfl (pgs_cons' (pg_name (i := 2) sc_unknowns_of.nd rfl (by first | exact Or.inl rfl | exact Or.inr rfl)) (pgs_cons' (pg_name (i := 3) sc_unknowns_of.nd rfl (by first | exact Or.inl rfl | exact Or.inr rfl)) (pgs_cons' (pg_name (i := 4) sc_unknowns_of.nd rfl (by first | exact Or.inl rfl | exact Or.inr rfl)) pgs_nil'))))
  (mss_cons (ms_for (passes_of rfl) rfl (mi_seq (me_tup (ma_cons (me_var 2) (ma_cons (me_var 3) ma_nil)))) (mg_nm (pg_name (i := 5) sc_unknowns_of.nd rfl (by first | exact Or.inl rfl | exact Or.inr rfl)))
  (mss_cons (ms_if (mt_cmp (or_notIn hr) (me_var 5) (me_var 1))
  (mss_cons (ms_expr (me_append (me_var 1) (me_var 5)))
  mss_nil)
  mss_nil)
  mss_nil))
  mss_nil))
  (mss_cons (ms_ret (me_var 1))
  mss_nil)))
theorem sc_relaxed : FnScope ["facts", "least", "last", "smaller", "place", "i", "j", "c"] ["facts", "least", "last"] (defScope s_relaxed) := ⟨rfl, rfl, rfl, by decide +kernel, rfl, by decide +kernel, by decide +kernel⟩
theorem bd_relaxed : BindsOk "relaxed" s_relaxed ["facts", "least", "last"] := fun _ _ _ _ _ _ us hl => match us, hl with | [_, _, _], _ => rfl
theorem t_relaxed (T : Txt K mg) : FnT P w K mg base "relaxed" 1 m_relaxed := .mk (k := 0) (N := ["facts", "least", "last", "smaller", "place", "i", "j", "c"]) (ps := ["facts", "least", "last"]) T.d_relaxed sc_relaxed bd_relaxed <| fun f cdv A outer s H E hr => by
  have tk := takes_of (X := cxOf (L2.CX P w) P w K mg base ["facts", "least", "last", "smaller", "place", "i", "j", "c"] "relaxed" (defScope s_relaxed) f cdv A outer s H E) (E := E) rfl rfl rfl rfl
  exact (mss_cons (ms_set 3 sc_relaxed.nd me_bool)
  (mss_cons (ms_for (passes_of rfl) rfl (mi_range1 (by rfl) T.n_range (me_callB cr_len (by rfl) T.n_len (ma_cons (me_var 0) ma_nil))) (mg_nm (pg_name (i := 4) sc_relaxed.nd rfl (by first | exact Or.inl rfl | exact Or.inr rfl)))
  (mss_cons (ms_asg (me_ix (xr_ix hr) (me_var 0) (me_var 4)) (mg_tup rfl (pgs_cons' (pg_name (i := 5) sc_relaxed.nd rfl (by first | exact Or.inl rfl | exact Or.inr rfl)) (pgs_cons' (pg_name (i := 6) sc_relaxed.nd rfl (by first | exact Or.inl rfl | exact Or.inr rfl)) (pgs_cons' (pg_name (i := 7) sc_relaxed.nd rfl (by first | exact Or.inl rfl | exact Or.inr rfl)) pgs_nil')))))
  (mss_cons (ms_if (mt_w (mw_and (mt_cmp (or_in hr) (me_var 6) (me_var 1)) (mw_and1 (mt_w (mw_or (mt_cmp (or_notIn hr) (me_var 5) (me_var 1)) (mw_or1 (mt_cmp or_lt (me_op or_add (me_ix (xr_ix hr) (me_var 1) (me_var 6)) (me_var 7)) (me_ix (xr_ix hr) (me_var 1) (me_var 5)))))))))
  (mss_cons (ms_sub (me_op or_add (me_ix (xr_ix hr) (me_var 1) (me_var 6)) (me_var 7)) (me_var 1) (me_var 5) (ps_ix hr))
  (mss_cons (ms_sub (me_var 4) (me_var 2) (me_var 5) (ps_ix hr))
  (mss_cons (ms_set 3 sc_relaxed.nd me_bool)
  mss_nil)))
  mss_nil)
  mss_nil)))
  (mss_cons (ms_ret (me_var 3))
  mss_nil)))
theorem sc_walked_round : FnScope ["facts", "last", "start", "met", "unknown", "first", "row"] ["facts", "last", "start"] (defScope s_walked_round) := ⟨rfl, rfl, rfl, by decide +kernel, rfl, by decide +kernel, by decide +kernel⟩
theorem bd_walked_round : BindsOk "walked_round" s_walked_round ["facts", "last", "start"] := fun _ _ _ _ _ _ us hl => match us, hl with | [_, _, _], _ => rfl
theorem t_walked_round (T : Txt K mg) : FnT P w K mg base "walked_round" 1 m_walked_round := .mk (k := 0) (N := ["facts", "last", "start", "met", "unknown", "first", "row"]) (ps := ["facts", "last", "start"]) T.d_walked_round sc_walked_round bd_walked_round <| fun f cdv A outer s H E hr => by
  have tk := takes_of (X := cxOf (L2.CX P w) P w K mg base ["facts", "last", "start", "met", "unknown", "first", "row"] "walked_round" (defScope s_walked_round) f cdv A outer s H E) (E := E) rfl rfl rfl rfl
  exact (mss_cons (ms_set 3 sc_walked_round.nd (me_lst ma_nil))
  (mss_cons (ms_set 4 sc_walked_round.nd (me_var 2))
  (mss_cons (ms_while 1000000 (passes_of rfl) (mt_cmp (or_notIn hr) (me_var 4) (me_var 3))
  (mss_cons (ms_expr (me_append (me_var 3) (me_var 4)))
  (mss_cons (ms_set 4 sc_walked_round.nd (me_ix (xr_ix hr) (me_ix (xr_ix hr) (me_var 0) (me_ix (xr_ix hr) (me_var 1) (me_var 4))) me_int))
  mss_nil)))
  (mss_cons (ms_set 5 sc_walked_round.nd (me_var 4))
  (mss_cons (ms_set 6 sc_walked_round.nd (me_lst ma_nil))
  (mss_cons (ms_while 1000000 (passes_of rfl) (mt_w (mw_or (mt_gc (mt_cmp (or_eq hr) (me_var 6) (me_lst ma_nil))) (mw_or1 (mt_cmp (or_ne hr) (me_var 4) (me_var 5)))))
  (mss_cons (ms_expr (me_append (me_var 6) (me_ix (xr_ix hr) (me_var 1) (me_var 4))))
  (mss_cons (ms_set 4 sc_walked_round.nd (me_ix (xr_ix hr) (me_ix (xr_ix hr) (me_var 0) (me_ix (xr_ix hr) (me_var 1) (me_var 4))) me_int))
  mss_nil)))
  (mss_cons (ms_ret (me_callTy cr_tuple (by rfl) T.n_tuple (ma_cons (me_var 6) ma_nil)))
  mss_nil)))))))
theorem sc_clash : FnScope ["facts", "least", "unknown", "last", "turn", "probe", "more", "changed"] ["facts"] (defScope s_clash) := ⟨rfl, rfl, rfl, by decide +kernel, rfl, by decide +kernel, by decide +kernel⟩
theorem bd_clash : BindsOk "clash" s_clash ["facts"] := fun _ _ _ _ _ _ us hl => match us, hl with | [_], _ => rfl
theorem t_clash (T : Txt K mg) : FnT P w K mg base "clash" 2 m_clash := .mk (k := 1) (N := ["facts", "least", "unknown", "last", "turn", "probe", "more", "changed"]) (ps := ["facts"]) T.d_clash sc_clash bd_clash <| fun f cdv A outer s H E hr => by
  have tk := takes_of (X := cxOf (L2.CX P w) P w K mg base ["facts", "least", "unknown", "last", "turn", "probe", "more", "changed"] "clash" (defScope s_clash) f cdv A outer s H E) (E := E) rfl rfl rfl rfl
  exact (mss_cons (ms_set 1 sc_clash.nd (me_callTy (cr_dict (by rfl)) (by rfl) T.n_dict (ma_cons (me_comp rfl sc_clash.nd (mi_seq (me_fn (t_unknowns_of T) hr (by rfl) tk (ma_cons (me_var 0) ma_nil))) (blkOk_by (own := [("unknown", 2)]) (by kernel_rfl)) (fun _ _ _ _ _ => (mg_nm (pg_name (i := 2) sc_clash.nd rfl (by first | exact Or.inl rfl | exact Or.inr rfl)))) (fun _ _ _ _ _ => mts_nil) (fun _ _ _ _ _ => (me_tup (ma_cons (me_var 2) (ma_cons me_int ma_nil))))) ma_nil)))
  (mss_cons (ms_set 3 sc_clash.nd me_newK)
  (mss_cons (ms_for (passes_of rfl) rfl (mi_range1 (by rfl) T.n_range (me_callB cr_len (by rfl) T.n_len (ma_cons (me_var 1) ma_nil))) (mg_nm (pg_name (i := 4) sc_clash.nd rfl (by first | exact Or.inl rfl | exact Or.inr rfl)))
  (mss_cons (ms_if (mt_not (mt_val (me_fn (t_relaxed T) hr (by rfl) tk (ma_cons (me_var 0) (ma_cons (me_var 1) (ma_cons (me_var 3) ma_nil))))))
  (mss_cons (ms_ret me_none)
  mss_nil)
  mss_nil)
  mss_nil))
  (mss_cons (ms_set 5 sc_clash.nd (me_callTy (cr_dict (by rfl)) (by rfl) T.n_dict (ma_cons (me_var 1) ma_nil)))
  (mss_cons (ms_set 6 sc_clash.nd (me_callTy (cr_dict (by rfl)) (by rfl) T.n_dict (ma_cons (me_var 3) ma_nil)))
  (mss_cons (ms_expr (me_fn (t_relaxed T) hr (by rfl) tk (ma_cons (me_var 0) (ma_cons (me_var 5) (ma_cons (me_var 6) ma_nil)))))
  (mss_cons (ms_setC 7 rfl sc_clash.nd (mi_seq (me_callB (cr_sort (by rfl)) (by rfl) T.n_sorted (ma_cons (me_var 5) ma_nil))) (blkOk_by (own := [("unknown", 2)]) (by kernel_rfl)) (fun _ _ _ _ _ => (mg_nm (pg_name (i := 2) sc_clash.nd rfl (by first | exact Or.inl rfl | exact Or.inr rfl)))) (fun _ _ _ _ _ => (mts_one (mt_cmp or_lt (me_ix (xr_ix hr) (me_var 5) (me_var 2)) (me_ix (xr_ix hr) (me_var 1) (me_var 2))))) (fun _ _ _ _ _ => (me_var 2)))
  (mss_cons (ms_ret (me_fn (t_walked_round T) hr (by rfl) tk (ma_cons (me_var 0) (ma_cons (me_var 6) (ma_cons (me_ix (xr_ix hr) (me_var 7) me_int) ma_nil)))))
  mss_nil))))))))
theorem sc_sums_to : FnScope ["facts", "j", "least", "last", "turns"] ["facts", "j"] (defScope s_sums_to) := ⟨rfl, rfl, rfl, by decide +kernel, rfl, by decide +kernel, by decide +kernel⟩
theorem bd_sums_to : BindsOk "sums_to" s_sums_to ["facts", "j"] := fun _ _ _ _ _ _ us hl => match us, hl with | [_, _], _ => rfl
theorem t_sums_to (T : Txt K mg) : FnT P w K mg base "sums_to" 2 m_sums_to := .mk (k := 1) (N := ["facts", "j", "least", "last", "turns"]) (ps := ["facts", "j"]) T.d_sums_to sc_sums_to bd_sums_to <| fun f cdv A outer s H E hr => by
  have tk := takes_of (X := cxOf (L2.CX P w) P w K mg base ["facts", "j", "least", "last", "turns"] "sums_to" (defScope s_sums_to) f cdv A outer s H E) (E := E) rfl rfl rfl rfl
  exact (mss_cons (ms_set 2 sc_sums_to.nd (me_disp (.cons (me_var 1) me_int .nil)))
  (mss_cons (ms_set 3 sc_sums_to.nd me_newK)
  (mss_cons (ms_set 4 sc_sums_to.nd me_int)
  (mss_cons (ms_while 1000000 (passes_of rfl) (mt_val (me_fn (t_relaxed T) hr (by rfl) tk (ma_cons (me_var 0) (ma_cons (me_var 2) (ma_cons (me_var 3) ma_nil)))))
  (mss_cons (ms_set 4 sc_sums_to.nd (me_op or_add (me_var 4) me_int))
  mss_nil))
  (mss_cons (ms_ret (me_tup (ma_cons (me_var 2) (ma_cons (me_var 3) ma_nil))))
  mss_nil)))))
theorem sc_chain : FnScope ["facts", "fact", "i", "j", "c", "found", "least", "last", "row"] ["facts", "fact"] (defScope s_chain) := ⟨rfl, rfl, rfl, by decide +kernel, rfl, by decide +kernel, by decide +kernel⟩
theorem bd_chain : BindsOk "chain" s_chain ["facts", "fact"] := fun _ _ _ _ _ _ us hl => match us, hl with | [_, _], _ => rfl
theorem t_chain (T : Txt K mg) : FnT P w K mg base "chain" 3 m_chain := .mk (k := 2) (N := ["facts", "fact", "i", "j", "c", "found", "least", "last", "row"]) (ps := ["facts", "fact"]) T.d_chain sc_chain bd_chain <| fun f cdv A outer s H E hr => by
  have tk := takes_of (X := cxOf (L2.CX P w) P w K mg base ["facts", "fact", "i", "j", "c", "found", "least", "last", "row"] "chain" (defScope s_chain) f cdv A outer s H E) (E := E) rfl rfl rfl rfl
  exact (mss_cons (ms_asg (me_var 1) (mg_tup rfl (pgs_cons' (pg_name (i := 2) sc_chain.nd rfl (by first | exact Or.inl rfl | exact Or.inr rfl)) (pgs_cons' (pg_name (i := 3) sc_chain.nd rfl (by first | exact Or.inl rfl | exact Or.inr rfl)) (pgs_cons' (pg_name (i := 4) sc_chain.nd rfl (by first | exact Or.inl rfl | exact Or.inr rfl)) pgs_nil')))))
  (mss_cons (ms_set 5 sc_chain.nd (me_fn (t_clash T) hr (by rfl) tk (ma_cons (me_var 0) ma_nil)))
  (mss_cons (ms_if (mt_cmp or_notN (me_var 5) me_none)
  (mss_cons (ms_ret (me_var 5))
  mss_nil)
  mss_nil)
  (mss_cons (ms_asg (me_fn (t_sums_to T) hr (by rfl) tk (ma_cons (me_var 0) (ma_cons (me_var 3) ma_nil))) (mg_tup rfl (pgs_cons' (pg_name (i := 6) sc_chain.nd rfl (by first | exact Or.inl rfl | exact Or.inr rfl)) (pgs_cons' (pg_name (i := 7) sc_chain.nd rfl (by first | exact Or.inl rfl | exact Or.inr rfl)) pgs_nil'))))
  (mss_cons (ms_if (mt_w (mw_or (mt_cmp (or_notIn hr) (me_var 2) (me_var 6)) (mw_or1 (mt_cmp or_gt (me_ix (xr_ix hr) (me_var 6) (me_var 2)) (me_var 4)))))
  (mss_cons (ms_ret me_none)
  mss_nil)
  mss_nil)
  (mss_cons (ms_set 8 sc_chain.nd (me_lst ma_nil))
  (mss_cons (ms_while 1000000 (passes_of rfl) (mt_cmp (or_ne hr) (me_var 2) (me_var 3))
  (mss_cons (ms_expr (me_append (me_var 8) (me_ix (xr_ix hr) (me_var 7) (me_var 2))))
  (mss_cons (ms_set 2 sc_chain.nd (me_ix (xr_ix hr) (me_ix (xr_ix hr) (me_var 0) (me_ix (xr_ix hr) (me_var 7) (me_var 2))) me_int))
  mss_nil)))
  (mss_cons (ms_ret (me_callTy cr_tuple (by rfl) T.n_tuple (ma_cons (me_var 8) ma_nil)))
  mss_nil))))))))
theorem sc_goes_on : FnScope ["facts", "row", "total", "place"] ["facts", "row"] (defScope s_goes_on) := ⟨rfl, rfl, rfl, by decide +kernel, rfl, by decide +kernel, by decide +kernel⟩
theorem bd_goes_on : BindsOk "goes_on" s_goes_on ["facts", "row"] := fun _ _ _ _ _ _ us hl => match us, hl with | [_, _], _ => rfl
theorem t_goes_on (T : Txt K mg) : FnT P w K mg base "goes_on" 1 m_goes_on := .mk (k := 0) (N := ["facts", "row", "total", "place"]) (ps := ["facts", "row"]) T.d_goes_on sc_goes_on bd_goes_on <| fun f cdv A outer s H E hr => by
  have tk := takes_of (X := cxOf (L2.CX P w) P w K mg base ["facts", "row", "total", "place"] "goes_on" (defScope s_goes_on) f cdv A outer s H E) (E := E) rfl rfl rfl rfl
  exact (mss_cons (ms_set 2 sc_goes_on.nd me_int)
  (mss_cons (ms_for (passes_of rfl) rfl (mi_range1 (by rfl) T.n_range (me_callB cr_len (by rfl) T.n_len (ma_cons (me_var 1) ma_nil))) (mg_nm (pg_name (i := 3) sc_goes_on.nd rfl (by first | exact Or.inl rfl | exact Or.inr rfl)))
  (mss_cons (ms_if (mt_w (mw_and (mt_cmp or_gt (me_var 3) me_int) (mw_and1 (mt_cmp (or_ne hr) (me_ix (xr_ix hr) (me_ix (xr_ix hr) (me_var 0) (me_ix (xr_ix hr) (me_var 1) (me_op or_sub (me_var 3) me_int))) me_int) (me_ix (xr_ix hr) (me_ix (xr_ix hr) (me_var 0) (me_ix (xr_ix hr) (me_var 1) (me_var 3))) me_int)))))
  (mss_cons (ms_ret me_none)
  mss_nil)
  mss_nil)
  (mss_cons (ms_set 2 sc_goes_on.nd (me_op or_add (me_var 2) (me_ix (xr_ix hr) (me_ix (xr_ix hr) (me_var 0) (me_ix (xr_ix hr) (me_var 1) (me_var 3))) me_int)))
  mss_nil)))
  (mss_cons (ms_ret (me_var 2))
  mss_nil)))
theorem sc_proves : FnScope ["facts", "fact", "thing", "place", "i", "j", "c", "total", "first", "final"] ["facts", "fact", "thing"] (defScope s_proves) := ⟨rfl, rfl, rfl, by decide +kernel, rfl, by decide +kernel, by decide +kernel⟩
theorem bd_proves : BindsOk "proves" s_proves ["facts", "fact", "thing"] := fun _ _ _ _ _ _ us hl => match us, hl with | [_, _, _], _ => rfl
theorem t_proves (T : Txt K mg) : FnT P w K mg base "proves" 2 m_proves := .mk (k := 1) (N := ["facts", "fact", "thing", "place", "i", "j", "c", "total", "first", "final"]) (ps := ["facts", "fact", "thing"]) T.d_proves sc_proves bd_proves <| fun f cdv A outer s H E hr => by
  have tk := takes_of (X := cxOf (L2.CX P w) P w K mg base ["facts", "fact", "thing", "place", "i", "j", "c", "total", "first", "final"] "proves" (defScope s_proves) f cdv A outer s H E) (E := E) rfl rfl rfl rfl
  exact (mss_cons (ms_if (mt_not (mt_val (me_isI (T := "tuple") (by rfl) T.n_isinstance (me_var 2) (by rfl) T.n_tuple)))
  (mss_cons (ms_ret me_bool)
  mss_nil)
  mss_nil)
  (mss_cons (ms_for (passes_of rfl) rfl (mi_seq (me_var 2)) (mg_nm (pg_name (i := 3) sc_proves.nd rfl (by first | exact Or.inl rfl | exact Or.inr rfl)))
  (mss_cons (ms_if (mt_w (mw_or (mt_not (mt_val (me_fn (t_is_integer T) hr (by rfl) tk (ma_cons (me_var 3) ma_nil)))) (mw_or1 (mt_not (mt_chain or_le or_lt me_int (me_var 3) (me_callB cr_len (by rfl) T.n_len (ma_cons (me_var 0) ma_nil)))))))
  (mss_cons (ms_ret me_bool)
  mss_nil)
  mss_nil)
  mss_nil))
  (mss_cons (ms_asg (me_var 1) (mg_tup rfl (pgs_cons' (pg_name (i := 4) sc_proves.nd rfl (by first | exact Or.inl rfl | exact Or.inr rfl)) (pgs_cons' (pg_name (i := 5) sc_proves.nd rfl (by first | exact Or.inl rfl | exact Or.inr rfl)) (pgs_cons' (pg_name (i := 6) sc_proves.nd rfl (by first | exact Or.inl rfl | exact Or.inr rfl)) pgs_nil')))))
  (mss_cons (ms_if (mt_cmp (or_eq hr) (me_var 2) (me_tup ma_nil))
  (mss_cons (ms_ret (me_and (me_cmp (or_eq hr) (me_var 4) (me_var 5)) (me_one (me_cmp or_ge (me_var 6) me_int))))
  mss_nil)
  mss_nil)
  (mss_cons (ms_set 7 sc_proves.nd (me_fn (t_goes_on T) hr (by rfl) tk (ma_cons (me_var 0) (ma_cons (me_var 2) ma_nil))))
  (mss_cons (ms_if (mt_cmp or_isN (me_var 7) me_none)
  (mss_cons (ms_ret me_bool)
  mss_nil)
  mss_nil)
  (mss_cons (ms_set 8 sc_proves.nd (me_ix (xr_ix hr) (me_ix (xr_ix hr) (me_var 0) (me_ix (xr_ix hr) (me_var 2) me_int)) me_int))
  (mss_cons (ms_set 9 sc_proves.nd (me_ix (xr_ix hr) (me_ix (xr_ix hr) (me_var 0) (me_ix (xr_ix hr) (me_var 2) (me_un or_neg me_int))) me_int))
  (mss_cons (ms_ret (me_or (me_and (me_cmp (or_eq hr) (me_var 8) (me_var 4)) (me_and (me_cmp (or_eq hr) (me_var 9) (me_var 5)) (me_one (me_cmp or_le (me_var 7) (me_var 6))))) (me_one (me_and (me_cmp (or_eq hr) (me_var 8) (me_var 9)) (me_one (me_cmp or_lt (me_var 7) me_int))))))
  mss_nil)))))))))
theorem sc_fulfil : FnScope ["values", "facts", "fact"] ["values", "facts"] (defScope s_fulfil) := ⟨rfl, rfl, rfl, by decide +kernel, rfl, by decide +kernel, by decide +kernel⟩
theorem bd_fulfil : BindsOk "fulfil" s_fulfil ["values", "facts"] := fun _ _ _ _ _ _ us hl => match us, hl with | [_, _], _ => rfl
theorem t_fulfil (T : Txt K mg) : FnT P w K mg base "fulfil" 1 m_fulfil := .mk (k := 0) (N := ["values", "facts", "fact"]) (ps := ["values", "facts"]) T.d_fulfil sc_fulfil bd_fulfil <| fun f cdv A outer s H E hr => by
  have tk := takes_of (X := cxOf (L2.CX P w) P w K mg base ["values", "facts", "fact"] "fulfil" (defScope s_fulfil) f cdv A outer s H E) (E := E) rfl rfl rfl rfl
  exact (mss_cons (ms_ret (me_cmp (or_eq hr) (me_gc (me_callB cr_len (by rfl) T.n_len (ma_cons (me_comp rfl sc_fulfil.nd (mi_seq (me_var 1)) (blkOk_by (own := [("fact", 2)]) (by kernel_rfl)) (fun _ _ _ _ _ => (mg_nm (pg_name (i := 2) sc_fulfil.nd rfl (by first | exact Or.inl rfl | exact Or.inr rfl)))) (fun _ _ _ _ _ => (mts_one (mt_cmp or_gt (me_ix (xr_ix hr) (me_var 0) (me_ix (xr_ix hr) (me_var 2) me_int)) (me_op or_add (me_ix (xr_ix hr) (me_var 0) (me_ix (xr_ix hr) (me_var 2) me_int)) (me_ix (xr_ix hr) (me_var 2) me_int))))) (fun _ _ _ _ _ => (me_var 2))) ma_nil))) me_int))
  mss_nil)
theorem sc_numbers_for : FnScope ["facts", "many", "least", "unknown", "last"] ["facts", "many"] (defScope s_numbers_for) := ⟨rfl, rfl, rfl, by decide +kernel, rfl, by decide +kernel, by decide +kernel⟩
theorem bd_numbers_for : BindsOk "numbers_for" s_numbers_for ["facts", "many"] := fun _ _ _ _ _ _ us hl => match us, hl with | [_, _], _ => rfl
theorem t_numbers_for (T : Txt K mg) : FnT P w K mg base "numbers_for" 3 m_numbers_for := .mk (k := 2) (N := ["facts", "many", "least", "unknown", "last"]) (ps := ["facts", "many"]) T.d_numbers_for sc_numbers_for bd_numbers_for <| fun f cdv A outer s H E hr => by
  have tk := takes_of (X := cxOf (L2.CX P w) P w K mg base ["facts", "many", "least", "unknown", "last"] "numbers_for" (defScope s_numbers_for) f cdv A outer s H E) (E := E) rfl rfl rfl rfl
  exact (mss_cons (ms_if (mt_cmp or_notN (me_fn (t_clash T) hr (by rfl) tk (ma_cons (me_var 0) ma_nil)) me_none)
  (mss_cons (ms_ret me_none)
  mss_nil)
  mss_nil)
  (mss_cons (ms_set 2 sc_numbers_for.nd (me_callTy (cr_dict (by rfl)) (by rfl) T.n_dict (ma_cons (me_comp rfl sc_numbers_for.nd (mi_range1 (by rfl) T.n_range (me_var 1)) (blkOk_by (own := [("unknown", 3)]) (by kernel_rfl)) (fun _ _ _ _ _ => (mg_nm (pg_name (i := 3) sc_numbers_for.nd rfl (by first | exact Or.inl rfl | exact Or.inr rfl)))) (fun _ _ _ _ _ => mts_nil) (fun _ _ _ _ _ => (me_tup (ma_cons (me_var 3) (ma_cons me_int ma_nil))))) ma_nil)))
  (mss_cons (ms_set 4 sc_numbers_for.nd me_newK)
  (mss_cons (ms_while 1000000 (passes_of rfl) (mt_val (me_fn (t_relaxed T) hr (by rfl) tk (ma_cons (me_var 0) (ma_cons (me_var 2) (ma_cons (me_var 4) ma_nil)))))
  (mss_cons (ms_set 4 sc_numbers_for.nd me_newK)
  mss_nil))
  (mss_cons (ms_ret (me_gc (me_callTy cr_tuple (by rfl) T.n_tuple (ma_cons (me_comp rfl sc_numbers_for.nd (mi_range1 (by rfl) T.n_range (me_var 1)) (blkOk_by (own := [("unknown", 3)]) (by kernel_rfl)) (fun _ _ _ _ _ => (mg_nm (pg_name (i := 3) sc_numbers_for.nd rfl (by first | exact Or.inl rfl | exact Or.inr rfl)))) (fun _ _ _ _ _ => mts_nil) (fun _ _ _ _ _ => (me_op or_sub (me_ix (xr_ix hr) (me_var 2) (me_var 3)) (me_ix (xr_ix hr) (me_var 2) me_int)))) ma_nil))))
  mss_nil)))))
theorem sc_against : FnScope ["facts", "fact", "many", "i", "j", "c"] ["facts", "fact", "many"] (defScope s_against) := ⟨rfl, rfl, rfl, by decide +kernel, rfl, by decide +kernel, by decide +kernel⟩
theorem bd_against : BindsOk "against" s_against ["facts", "fact", "many"] := fun _ _ _ _ _ _ us hl => match us, hl with | [_, _, _], _ => rfl
theorem t_against (T : Txt K mg) : FnT P w K mg base "against" 4 m_against := .mk (k := 3) (N := ["facts", "fact", "many", "i", "j", "c"]) (ps := ["facts", "fact", "many"]) T.d_against sc_against bd_against <| fun f cdv A outer s H E hr => by
  have tk := takes_of (X := cxOf (L2.CX P w) P w K mg base ["facts", "fact", "many", "i", "j", "c"] "against" (defScope s_against) f cdv A outer s H E) (E := E) rfl rfl rfl rfl
  exact (mss_cons (ms_asg (me_var 1) (mg_tup rfl (pgs_cons' (pg_name (i := 3) sc_against.nd rfl (by first | exact Or.inl rfl | exact Or.inr rfl)) (pgs_cons' (pg_name (i := 4) sc_against.nd rfl (by first | exact Or.inl rfl | exact Or.inr rfl)) (pgs_cons' (pg_name (i := 5) sc_against.nd rfl (by first | exact Or.inl rfl | exact Or.inr rfl)) pgs_nil')))))
  (mss_cons (ms_ret (me_fn (t_numbers_for T) hr (by rfl) tk (ma_cons (me_op or_add (me_callTy cr_tuple (by rfl) T.n_tuple (ma_cons (me_var 0) ma_nil)) (me_tup (ma_cons (me_tup (ma_cons (me_var 4) (ma_cons (me_var 3) (ma_cons (me_op or_sub (me_op or_sub me_int (me_var 5)) me_int) ma_nil)))) ma_nil))) (ma_cons (me_var 2) ma_nil))))
  mss_nil))
theorem sc__law_cell : FnScope ["script", "k"] ["script", "k"] (defScope s__law_cell) := ⟨rfl, rfl, rfl, by decide +kernel, rfl, by decide +kernel, by decide +kernel⟩
theorem bd__law_cell : BindsOk "_law_cell" s__law_cell ["script", "k"] := fun _ _ _ _ _ _ us hl => match us, hl with | [_, _], _ => rfl
theorem t__law_cell (T : Txt K mg) : FnT P w K mg base "_law_cell" 1 m__law_cell := .mk (k := 0) (N := ["script", "k"]) (ps := ["script", "k"]) T.d__law_cell sc__law_cell bd__law_cell <| fun f cdv A outer s H E hr => by
  have tk := takes_of (X := cxOf (L2.CX P w) P w K mg base ["script", "k"] "_law_cell" (defScope s__law_cell) f cdv A outer s H E) (E := E) rfl rfl rfl rfl
  exact (mss_cons (ms_if (mt_cmp or_lt (me_var 1) (me_callB cr_len (by rfl) T.n_len (ma_cons (me_var 0) ma_nil)))
  (mss_cons (ms_ret (me_ix (xr_ix hr) (me_var 0) (me_var 1)))
  mss_nil)
  mss_nil)
  (mss_cons (ms_ret me_int)
  mss_nil))
theorem sc__law_digits : FnScope ["script", "first", "last", "digits", "k", "cell", "turn", "seed"] ["script", "first", "last"] (defScope s__law_digits) := ⟨rfl, rfl, rfl, by decide +kernel, rfl, by decide +kernel, by decide +kernel⟩
theorem bd__law_digits : BindsOk "_law_digits" s__law_digits ["script", "first", "last"] := fun _ _ _ _ _ _ us hl => match us, hl with | [_, _, _], _ => rfl
theorem t__law_digits (T : Txt K mg) : FnT P w K mg base "_law_digits" 2 m__law_digits := .mk (k := 1) (N := ["script", "first", "last", "digits", "k", "cell", "turn", "seed"]) (ps := ["script", "first", "last"]) T.d__law_digits sc__law_digits bd__law_digits <| fun f cdv A outer s H E hr => by
  have tk := takes_of (X := cxOf (L2.CX P w) P w K mg base ["script", "first", "last", "digits", "k", "cell", "turn", "seed"] "_law_digits" (defScope s__law_digits) f cdv A outer s H E) (E := E) rfl rfl rfl rfl
  exact (mss_cons (ms_set 3 sc__law_digits.nd (me_lst ma_nil))
  (mss_cons (ms_for (passes_of rfl) rfl (mi_range2 (by rfl) T.n_range (me_var 1) (me_var 2)) (mg_nm (pg_name (i := 4) sc__law_digits.nd rfl (by first | exact Or.inl rfl | exact Or.inr rfl)))
  (mss_cons (ms_set 5 sc__law_digits.nd (me_fn (t__law_cell T) hr (by rfl) tk (ma_cons (me_var 0) (ma_cons (me_var 4) ma_nil))))
  (mss_cons (ms_if (mt_cmp or_lt (me_var 5) me_int)
  (mss_cons (ms_set 5 sc__law_digits.nd (me_op or_sub me_int (me_op or_mul me_int (me_var 5))))
  mss_nil)
  mss_nil)
  (mss_cons (ms_if (mt_cmp or_ge (me_var 5) (me_op or_pow me_int me_int))
  (mss_cons (ms_for (passes_of rfl) rfl (mi_range1 (by rfl) T.n_range me_int) (mg_nm (pg_name (i := 6) sc__law_digits.nd rfl (by first | exact Or.inl rfl | exact Or.inr rfl)))
  (mss_cons (ms_if (mt_cmp or_gt (me_var 5) me_int)
  (mss_cons (ms_expr (me_append (me_var 3) (me_op or_mod (me_callTy cr_int (by rfl) T.n_int (ma_cons (me_var 5) ma_nil)) me_int)))
  (mss_cons (ms_set 5 sc__law_digits.nd (me_op or_floorDiv (me_var 5) me_int))
  mss_nil))
  mss_nil)
  mss_nil))
  mss_nil)
  (mss_cons (ms_set 7 sc__law_digits.nd (me_op or_mod (me_callTy cr_int (by rfl) T.n_int (ma_cons (me_op or_add (me_op or_add (me_op or_mul (me_var 5) me_int) (me_op or_mul (me_var 4) me_int)) me_int) ma_nil)) me_int))
  (mss_cons (ms_for (passes_of rfl) rfl (mi_range1 (by rfl) T.n_range me_int) (mg_nm (pg_name (i := 6) sc__law_digits.nd rfl (by first | exact Or.inl rfl | exact Or.inr rfl)))
  (mss_cons (ms_set 7 sc__law_digits.nd (me_op or_mod (me_callTy cr_int (by rfl) T.n_int (ma_cons (me_op or_add (me_op or_add (me_op or_mul (me_var 7) me_int) (me_op or_mul me_int (me_var 6))) me_int) ma_nil)) me_int))
  (mss_cons (ms_expr (me_append (me_var 3) (me_op or_mod (me_callTy cr_int (by rfl) T.n_int (ma_cons (me_op or_floorDiv (me_var 7) me_int) ma_nil)) me_int)))
  mss_nil)))
  mss_nil)))
  mss_nil))))
  (mss_cons (ms_ret (me_var 3))
  mss_nil)))
theorem sc__law_draw : FnScope ["box", "many", "at"] ["box", "many"] (defScope s__law_draw) := ⟨rfl, rfl, rfl, by decide +kernel, rfl, by decide +kernel, by decide +kernel⟩
theorem bd__law_draw : BindsOk "_law_draw" s__law_draw ["box", "many"] := fun _ _ _ _ _ _ us hl => match us, hl with | [_, _], _ => rfl
theorem t__law_draw (T : Txt K mg) : FnT P w K mg base "_law_draw" 1 m__law_draw := .mk (k := 0) (N := ["box", "many", "at"]) (ps := ["box", "many"]) T.d__law_draw sc__law_draw bd__law_draw <| fun f cdv A outer s H E hr => by
  have tk := takes_of (X := cxOf (L2.CX P w) P w K mg base ["box", "many", "at"] "_law_draw" (defScope s__law_draw) f cdv A outer s H E) (E := E) rfl rfl rfl rfl
  exact (mss_cons (ms_set 2 sc__law_draw.nd (me_ix (xr_ix hr) (me_var 0) me_int))
  (mss_cons (ms_sub (me_op or_add (me_var 2) me_int) (me_var 0) me_int (ps_ix hr))
  (mss_cons (ms_if (mt_cmp or_lt (me_var 2) (me_callB cr_len (by rfl) T.n_len (ma_cons (me_ix (xr_ix hr) (me_var 0) me_int) ma_nil)))
  (mss_cons (ms_ret (me_op or_mod (me_callTy cr_int (by rfl) T.n_int (ma_cons (me_ix (xr_ix hr) (me_ix (xr_ix hr) (me_var 0) me_int) (me_var 2)) ma_nil)) (me_var 1)))
  mss_nil)
  mss_nil)
  (mss_cons (ms_ret me_int)
  mss_nil))))
theorem sc__law_all_rows : FnScope ["many", "most", "rows", "turn", "longer", "row", "number"] ["many", "most"] (defScope s__law_all_rows) := ⟨rfl, rfl, rfl, by decide +kernel, rfl, by decide +kernel, by decide +kernel⟩
theorem bd__law_all_rows : BindsOk "_law_all_rows" s__law_all_rows ["many", "most"] := fun _ _ _ _ _ _ us hl => match us, hl with | [_, _], _ => rfl
theorem t__law_all_rows (T : Txt K mg) : FnT P w K mg base "_law_all_rows" 1 m__law_all_rows := .mk (k := 0) (N := ["many", "most", "rows", "turn", "longer", "row", "number"]) (ps := ["many", "most"]) T.d__law_all_rows sc__law_all_rows bd__law_all_rows <| fun f cdv A outer s H E hr => by
  have tk := takes_of (X := cxOf (L2.CX P w) P w K mg base ["many", "most", "rows", "turn", "longer", "row", "number"] "_law_all_rows" (defScope s__law_all_rows) f cdv A outer s H E) (E := E) rfl rfl rfl rfl
  exact (mss_cons (ms_set 2 sc__law_all_rows.nd (me_lst (ma_cons (me_tup (ma_cons me_int ma_nil)) ma_nil)))
  (mss_cons (ms_for (passes_of rfl) rfl (mi_range1 (by rfl) T.n_range (me_op or_sub (me_var 0) me_int)) (mg_nm (pg_name (i := 3) sc__law_all_rows.nd rfl (by first | exact Or.inl rfl | exact Or.inr rfl)))
  (mss_cons (ms_set 4 sc__law_all_rows.nd (me_lst ma_nil))
  (mss_cons (ms_for (passes_of rfl) rfl (mi_seq (me_var 2)) (mg_nm (pg_name (i := 5) sc__law_all_rows.nd rfl (by first | exact Or.inl rfl | exact Or.inr rfl)))
  (mss_cons (ms_set 4 sc__law_all_rows.nd (me_op or_add (me_var 4) (me_comp rfl sc__law_all_rows.nd (mi_range2 (by rfl) T.n_range (me_op or_sub me_int (me_var 1)) (me_op or_add (me_var 1) me_int)) (blkOk_by (own := [("number", 6)]) (by kernel_rfl)) (fun _ _ _ _ _ => (mg_nm (pg_name (i := 6) sc__law_all_rows.nd rfl (by first | exact Or.inl rfl | exact Or.inr rfl)))) (fun _ _ _ _ _ => mts_nil) (fun _ _ _ _ _ => (me_op or_add (me_var 5) (me_tup (ma_cons (me_var 6) ma_nil)))))))
  mss_nil))
  (mss_cons (ms_set 2 sc__law_all_rows.nd (me_var 4))
  mss_nil))))
  (mss_cons (ms_ret (me_var 2))
  mss_nil)))
theorem sc__law_fit : FnScope ["values", "facts", "i", "j", "c"] ["values", "facts"] (defScope s__law_fit) := ⟨rfl, rfl, rfl, by decide +kernel, rfl, by decide +kernel, by decide +kernel⟩
theorem bd__law_fit : BindsOk "_law_fit" s__law_fit ["values", "facts"] := fun _ _ _ _ _ _ us hl => match us, hl with | [_, _], _ => rfl
theorem t__law_fit (T : Txt K mg) : FnT P w K mg base "_law_fit" 1 m__law_fit := .mk (k := 0) (N := ["values", "facts", "i", "j", "c"]) (ps := ["values", "facts"]) T.d__law_fit sc__law_fit bd__law_fit <| fun f cdv A outer s H E hr => by
  have tk := takes_of (X := cxOf (L2.CX P w) P w K mg base ["values", "facts", "i", "j", "c"] "_law_fit" (defScope s__law_fit) f cdv A outer s H E) (E := E) rfl rfl rfl rfl
  exact (mss_cons (ms_ret (me_gc (me_cmp (or_eq hr) (me_comp rfl sc__law_fit.nd (mi_seq (me_var 1)) (blkOk_by (own := [("i", 2), ("j", 3), ("c", 4)]) (by kernel_rfl)) (fun _ _ _ _ _ => (mg_tup rfl (pgs_cons' (pg_name (i := 2) sc__law_fit.nd rfl (by first | exact Or.inl rfl | exact Or.inr rfl)) (pgs_cons' (pg_name (i := 3) sc__law_fit.nd rfl (by first | exact Or.inl rfl | exact Or.inr rfl)) (pgs_cons' (pg_name (i := 4) sc__law_fit.nd rfl (by first | exact Or.inl rfl | exact Or.inr rfl)) pgs_nil'))))) (fun _ _ _ _ _ => (mts_one (mt_cmp or_gt (me_ix (xr_ix hr) (me_var 0) (me_var 2)) (me_op or_add (me_ix (xr_ix hr) (me_var 0) (me_var 3)) (me_var 4))))) (fun _ _ _ _ _ => me_int)) (me_lst ma_nil))))
  mss_nil)
theorem sc__law_right_numbers : FnScope ["told", "facts", "many", "x"] ["told", "facts", "many"] (defScope s__law_right_numbers) := ⟨rfl, rfl, rfl, by decide +kernel, rfl, by decide +kernel, by decide +kernel⟩
theorem bd__law_right_numbers : BindsOk "_law_right_numbers" s__law_right_numbers ["told", "facts", "many"] := fun _ _ _ _ _ _ us hl => match us, hl with | [_, _, _], _ => rfl
theorem t__law_right_numbers (T : Txt K mg) : FnT P w K mg base "_law_right_numbers" 2 m__law_right_numbers := .mk (k := 1) (N := ["told", "facts", "many", "x"]) (ps := ["told", "facts", "many"]) T.d__law_right_numbers sc__law_right_numbers bd__law_right_numbers <| fun f cdv A outer s H E hr => by
  have tk := takes_of (X := cxOf (L2.CX P w) P w K mg base ["told", "facts", "many", "x"] "_law_right_numbers" (defScope s__law_right_numbers) f cdv A outer s H E) (E := E) rfl rfl rfl rfl
  exact (mss_cons (ms_if (mt_w (mw_or (mt_not (mt_val (me_isI (T := "tuple") (by rfl) T.n_isinstance (me_var 0) (by rfl) T.n_tuple))) (mw_or (mt_cmp (or_ne hr) (me_callB cr_len (by rfl) T.n_len (ma_cons (me_var 0) ma_nil)) (me_var 2)) (mw_or1 (mt_cmp (or_ne hr) (me_ix (xr_ix hr) (me_var 0) me_int) me_int)))))
  (mss_cons (ms_ret me_bool)
  mss_nil)
  mss_nil)
  (mss_cons (ms_ret (me_and (me_gc (me_cmp (or_eq hr) (me_comp rfl sc__law_right_numbers.nd (mi_seq (me_var 0)) (blkOk_by (own := [("x", 3)]) (by kernel_rfl)) (fun _ _ _ _ _ => (mg_nm (pg_name (i := 3) sc__law_right_numbers.nd rfl (by first | exact Or.inl rfl | exact Or.inr rfl)))) (fun _ _ _ _ _ => (mts_one (mt_w (mw_or (mt_not (mt_val (me_isI (T := "int") (by rfl) T.n_isinstance (me_var 3) (by rfl) T.n_int))) (mw_or1 (mt_val (me_isI (T := "bool") (by rfl) T.n_isinstance (me_var 3) (by rfl) T.n_bool))))))) (fun _ _ _ _ _ => (me_var 3))) (me_lst ma_nil))) (me_one (me_fn (t__law_fit T) hr (by rfl) tk (ma_cons (me_var 0) (ma_cons (me_var 1) ma_nil))))))
  mss_nil))
theorem sc__law_sums : FnScope ["facts", "many", "far", "least", "j", "i", "c", "turn", "longer", "k"] ["facts", "many"] (defScope s__law_sums) := ⟨rfl, rfl, rfl, by decide +kernel, rfl, by decide +kernel, by decide +kernel⟩
theorem bd__law_sums : BindsOk "_law_sums" s__law_sums ["facts", "many"] := fun _ _ _ _ _ _ us hl => match us, hl with | [_, _], _ => rfl
theorem t__law_sums (T : Txt K mg) : FnT P w K mg base "_law_sums" 1 m__law_sums := .mk (k := 0) (N := ["facts", "many", "far", "least", "j", "i", "c", "turn", "longer", "k"]) (ps := ["facts", "many"]) T.d__law_sums sc__law_sums bd__law_sums <| fun f cdv A outer s H E hr => by
  have tk := takes_of (X := cxOf (L2.CX P w) P w K mg base ["facts", "many", "far", "least", "j", "i", "c", "turn", "longer", "k"] "_law_sums" (defScope s__law_sums) f cdv A outer s H E) (E := E) rfl rfl rfl rfl
  exact (mss_cons (ms_set 2 sc__law_sums.nd (me_op or_pow me_int me_int))
  (mss_cons (ms_set 3 sc__law_sums.nd (me_comp rfl sc__law_sums.nd (mi_range1 (by rfl) T.n_range (me_var 1)) (blkOk_by (own := [("i", 5)]) (by kernel_rfl)) (fun _ _ _ _ _ => (mg_nm (pg_name (i := 5) sc__law_sums.nd rfl (by first | exact Or.inl rfl | exact Or.inr rfl)))) (fun _ _ _ _ _ => mts_nil) (fun _ _ _ _ _ => (me_comp rfl sc__law_sums.nd (mi_range1 (by rfl) T.n_range (me_var 1)) (blkOk_by (own := [("j", 4)]) (by kernel_rfl)) (fun _ _ _ _ _ => (mg_nm (pg_name (i := 4) sc__law_sums.nd rfl (by first | exact Or.inl rfl | exact Or.inr rfl)))) (fun _ _ _ _ _ => mts_nil) (fun _ _ _ _ _ => (me_gc (me_ix (xr_ix hr) (me_lst (ma_cons (me_var 2) (ma_cons me_int ma_nil))) (me_callTy cr_int (by rfl) T.n_int (ma_cons (me_cmp (or_eq hr) (me_var 5) (me_var 4)) ma_nil)))))))))
  (mss_cons (ms_for (passes_of rfl) rfl (mi_seq (me_var 0)) (mg_tup rfl (pgs_cons' (pg_name (i := 5) sc__law_sums.nd rfl (by first | exact Or.inl rfl | exact Or.inr rfl)) (pgs_cons' (pg_name (i := 4) sc__law_sums.nd rfl (by first | exact Or.inl rfl | exact Or.inr rfl)) (pgs_cons' (pg_name (i := 6) sc__law_sums.nd rfl (by first | exact Or.inl rfl | exact Or.inr rfl)) pgs_nil'))))
  (mss_cons (ms_sub (me_callB (cr_least (by rfl)) (by rfl) T.n_min (ma_cons (me_ix (xr_ix hr) (me_ix (xr_ix hr) (me_var 3) (me_var 5)) (me_var 4)) (ma_cons (me_var 6) ma_nil))) (me_ix (xr_ix hr) (me_var 3) (me_var 5)) (me_var 4) (ps_ix hr))
  mss_nil))
  (mss_cons (ms_for (passes_of rfl) rfl (mi_range1 (by rfl) T.n_range me_int) (mg_nm (pg_name (i := 7) sc__law_sums.nd rfl (by first | exact Or.inl rfl | exact Or.inr rfl)))
  (mss_cons (ms_set 8 sc__law_sums.nd (me_lst ma_nil))
  (mss_cons (ms_for (passes_of rfl) rfl (mi_range1 (by rfl) T.n_range (me_var 1)) (mg_nm (pg_name (i := 5) sc__law_sums.nd rfl (by first | exact Or.inl rfl | exact Or.inr rfl)))
  (mss_cons (ms_expr (me_append (me_var 8) (me_comp rfl sc__law_sums.nd (mi_range1 (by rfl) T.n_range (me_var 1)) (blkOk_by (own := [("j", 4)]) (by kernel_rfl)) (fun _ _ _ _ _ => (mg_nm (pg_name (i := 4) sc__law_sums.nd rfl (by first | exact Or.inl rfl | exact Or.inr rfl)))) (fun _ _ _ _ _ => mts_nil) (fun _ _ _ _ _ => (me_gc (me_callB (cr_least (by rfl)) (by rfl) T.n_min (ma_cons (me_comp rfl sc__law_sums.nd (mi_range1 (by rfl) T.n_range (me_var 1)) (blkOk_by (own := [("k", 9)]) (by kernel_rfl)) (fun _ _ _ _ _ => (mg_nm (pg_name (i := 9) sc__law_sums.nd rfl (by first | exact Or.inl rfl | exact Or.inr rfl)))) (fun _ _ _ _ _ => mts_nil) (fun _ _ _ _ _ => (me_op or_add (me_ix (xr_ix hr) (me_ix (xr_ix hr) (me_var 3) (me_var 5)) (me_var 9)) (me_ix (xr_ix hr) (me_ix (xr_ix hr) (me_var 3) (me_var 9)) (me_var 4))))) ma_nil)))))))
  mss_nil))
  (mss_cons (ms_set 3 sc__law_sums.nd (me_var 8))
  mss_nil))))
  (mss_cons (ms_for (passes_of rfl) rfl (mi_range1 (by rfl) T.n_range (me_var 1)) (mg_nm (pg_name (i := 5) sc__law_sums.nd rfl (by first | exact Or.inl rfl | exact Or.inr rfl)))
  (mss_cons (ms_if (mt_cmp or_lt (me_ix (xr_ix hr) (me_ix (xr_ix hr) (me_var 3) (me_var 5)) (me_var 5)) me_int)
  (mss_cons (ms_ret me_bool)
  mss_nil)
  mss_nil)
  mss_nil))
  (mss_cons (ms_ret (me_var 3))
  mss_nil))))))
theorem sc__law_follows : FnScope ["least", "fact"] ["least", "fact"] (defScope s__law_follows) := ⟨rfl, rfl, rfl, by decide +kernel, rfl, by decide +kernel, by decide +kernel⟩
theorem bd__law_follows : BindsOk "_law_follows" s__law_follows ["least", "fact"] := fun _ _ _ _ _ _ us hl => match us, hl with | [_, _], _ => rfl
theorem t__law_follows (T : Txt K mg) : FnT P w K mg base "_law_follows" 1 m__law_follows := .mk (k := 0) (N := ["least", "fact"]) (ps := ["least", "fact"]) T.d__law_follows sc__law_follows bd__law_follows <| fun f cdv A outer s H E hr => by
  have tk := takes_of (X := cxOf (L2.CX P w) P w K mg base ["least", "fact"] "_law_follows" (defScope s__law_follows) f cdv A outer s H E) (E := E) rfl rfl rfl rfl
  exact (mss_cons (ms_ret (me_or (me_cmp or_isB (me_var 0) me_bool) (me_one (me_cmp or_le (me_ix (xr_ix hr) (me_ix (xr_ix hr) (me_var 0) (me_ix (xr_ix hr) (me_var 1) me_int)) (me_ix (xr_ix hr) (me_var 1) me_int)) (me_ix (xr_ix hr) (me_var 1) me_int)))))
  mss_nil)
theorem sc__law_many : FnScope ["box", "many", "size", "facts", "turn", "c", "least", "fact", "told"] ["box"] (defScope s__law_many) := ⟨rfl, rfl, rfl, by decide +kernel, rfl, by decide +kernel, by decide +kernel⟩
theorem bd__law_many : BindsOk "_law_many" s__law_many ["box"] := fun _ _ _ _ _ _ us hl => match us, hl with | [_], _ => rfl
theorem t__law_many (T : Txt K mg) : FnT P w K mg base "_law_many" 5 m__law_many := .mk (k := 4) (N := ["box", "many", "size", "facts", "turn", "c", "least", "fact", "told"]) (ps := ["box"]) T.d__law_many sc__law_many bd__law_many <| fun f cdv A outer s H E hr => by
  have tk := takes_of (X := cxOf (L2.CX P w) P w K mg base ["box", "many", "size", "facts", "turn", "c", "least", "fact", "told"] "_law_many" (defScope s__law_many) f cdv A outer s H E) (E := E) rfl rfl rfl rfl
  exact (mss_cons (ms_set 1 sc__law_many.nd (me_op or_add me_int (me_fn (t__law_draw T) hr (by rfl) tk (ma_cons (me_var 0) (ma_cons me_int ma_nil)))))
  (mss_cons (ms_set 2 sc__law_many.nd (me_gc (me_ix (xr_ix hr) (me_lst (ma_cons me_int (ma_cons me_int (ma_cons (me_op or_pow me_int me_int) ma_nil)))) (me_fn (t__law_draw T) hr (by rfl) tk (ma_cons (me_var 0) (ma_cons me_int ma_nil))))))
  (mss_cons (ms_set 3 sc__law_many.nd (me_tup ma_nil))
  (mss_cons (ms_for (passes_of rfl) rfl (mi_range1 (by rfl) T.n_range (me_fn (t__law_draw T) hr (by rfl) tk (ma_cons (me_var 0) (ma_cons me_int ma_nil)))) (mg_nm (pg_name (i := 4) sc__law_many.nd rfl (by first | exact Or.inl rfl | exact Or.inr rfl)))
  (mss_cons (ms_set 5 sc__law_many.nd (me_op or_mul (me_op or_sub (me_fn (t__law_draw T) hr (by rfl) tk (ma_cons (me_var 0) (ma_cons me_int ma_nil))) me_int) (me_var 2)))
  (mss_cons (ms_set 3 sc__law_many.nd (me_op or_add (me_var 3) (me_tup (ma_cons (me_tup (ma_cons (me_fn (t__law_draw T) hr (by rfl) tk (ma_cons (me_var 0) (ma_cons (me_var 1) ma_nil))) (ma_cons (me_fn (t__law_draw T) hr (by rfl) tk (ma_cons (me_var 0) (ma_cons (me_var 1) ma_nil))) (ma_cons (me_var 5) ma_nil)))) ma_nil))))
  mss_nil)))
  (mss_cons (ms_set 6 sc__law_many.nd (me_fn (t__law_sums T) hr (by rfl) tk (ma_cons (me_var 3) (ma_cons (me_var 1) ma_nil))))
  (mss_cons (ms_if (mt_cmp (or_eq hr) (me_cmp or_isN (me_fn (t_clash T) hr (by rfl) tk (ma_cons (me_var 3) ma_nil)) me_none) (me_cmp or_isB (me_var 6) me_bool))
  (mss_cons (ms_ret me_bool)
  mss_nil)
  mss_nil)
  (mss_cons (ms_for (passes_of rfl) rfl (mi_range1 (by rfl) T.n_range me_int) (mg_nm (pg_name (i := 4) sc__law_many.nd rfl (by first | exact Or.inl rfl | exact Or.inr rfl)))
  (mss_cons (ms_set 7 sc__law_many.nd (me_tup (ma_cons (me_fn (t__law_draw T) hr (by rfl) tk (ma_cons (me_var 0) (ma_cons (me_var 1) ma_nil))) (ma_cons (me_fn (t__law_draw T) hr (by rfl) tk (ma_cons (me_var 0) (ma_cons (me_var 1) ma_nil))) (ma_cons (me_op or_mul (me_op or_sub (me_fn (t__law_draw T) hr (by rfl) tk (ma_cons (me_var 0) (ma_cons me_int ma_nil))) me_int) (me_var 2)) ma_nil)))))
  (mss_cons (ms_set 8 sc__law_many.nd (me_fn (t_chain T) hr (by rfl) tk (ma_cons (me_var 3) (ma_cons (me_var 7) ma_nil))))
  (mss_cons (ms_if (mt_w (mw_or (mt_cmp (or_ne hr) (me_cmp or_notN (me_var 8) me_none) (me_fn (t__law_follows T) hr (by rfl) tk (ma_cons (me_var 6) (ma_cons (me_var 7) ma_nil)))) (mw_or1 (mt_w (mw_and (mt_cmp or_notN (me_var 8) me_none) (mw_and1 (mt_not (mt_val (me_fn (t_proves T) hr (by rfl) tk (ma_cons (me_var 3) (ma_cons (me_var 7) (ma_cons (me_var 8) ma_nil))))))))))))
  (mss_cons (ms_ret me_bool)
  mss_nil)
  mss_nil)
  (mss_cons (ms_set 8 sc__law_many.nd (me_fn (t_against T) hr (by rfl) tk (ma_cons (me_var 3) (ma_cons (me_var 7) (ma_cons (me_var 1) ma_nil)))))
  (mss_cons (ms_if (mt_cmp (or_ne hr) (me_cmp or_isN (me_var 8) me_none) (me_fn (t__law_follows T) hr (by rfl) tk (ma_cons (me_var 6) (ma_cons (me_var 7) ma_nil))))
  (mss_cons (ms_ret me_bool)
  mss_nil)
  mss_nil)
  (mss_cons (ms_if (mt_w (mw_and (mt_cmp or_notN (me_var 8) me_none) (mw_and1 (mt_w (mw_or (mt_not (mt_val (me_fn (t__law_right_numbers T) hr (by rfl) tk (ma_cons (me_var 8) (ma_cons (me_var 3) (ma_cons (me_var 1) ma_nil)))))) (mw_or1 (mt_val (me_fn (t__law_fit T) hr (by rfl) tk (ma_cons (me_var 8) (ma_cons (me_lst (ma_cons (me_var 7) ma_nil)) ma_nil))))))))))
  (mss_cons (ms_ret me_bool)
  mss_nil)
  mss_nil)
  mss_nil)))))))
  (mss_cons (ms_ret me_bool)
  mss_nil))))))))
theorem sc_law : FnScope ["script", "box", "many", "facts", "turn", "i", "fact", "rows", "good", "row", "bad", "told"] ["script"] (defScope s_law) := ⟨rfl, rfl, rfl, by decide +kernel, rfl, by decide +kernel, by decide +kernel⟩
theorem bd_law : BindsOk "law" s_law ["script"] := fun _ _ _ _ _ _ us hl => match us, hl with | [_], _ => rfl
theorem t_law (T : Txt K mg) : FnP P w K mg base "law" ["script"] 6 m_law := .mk (k := 5) (N := ["script", "box", "many", "facts", "turn", "i", "fact", "rows", "good", "row", "bad", "told"]) (ps := ["script"]) T.d_law sc_law bd_law <| fun f cdv A outer s H E hr => by
  have tk := takes_of (X := cxOf (L2.CX P w) P w K mg base ["script", "box", "many", "facts", "turn", "i", "fact", "rows", "good", "row", "bad", "told"] "law" (defScope s_law) f cdv A outer s H E) (E := E) rfl rfl rfl rfl
  exact (mss_cons (ms_set 1 sc_law.nd (me_lst (ma_cons (me_fn (t__law_digits T) hr (by rfl) tk (ma_cons (me_var 0) (ma_cons me_int (ma_cons me_int ma_nil)))) (ma_cons me_int ma_nil))))
  (mss_cons (ms_if (mt_cmp (or_eq hr) (me_fn (t__law_draw T) hr (by rfl) tk (ma_cons (me_var 1) (ma_cons me_int ma_nil))) me_int)
  (mss_cons (ms_ret (me_fn (t__law_many T) hr (by rfl) tk (ma_cons (me_var 1) ma_nil)))
  mss_nil)
  mss_nil)
  (mss_cons (ms_set 2 sc_law.nd (me_op or_add me_int (me_fn (t__law_draw T) hr (by rfl) tk (ma_cons (me_var 1) (ma_cons me_int ma_nil)))))
  (mss_cons (ms_set 3 sc_law.nd (me_tup ma_nil))
  (mss_cons (ms_for (passes_of rfl) rfl (mi_range1 (by rfl) T.n_range (me_fn (t__law_draw T) hr (by rfl) tk (ma_cons (me_var 1) (ma_cons (me_gc (me_ix (xr_ix hr) (me_lst (ma_cons me_int (ma_cons me_int (ma_cons me_int ma_nil)))) (me_op or_sub (me_var 2) me_int))) ma_nil)))) (mg_nm (pg_name (i := 4) sc_law.nd rfl (by first | exact Or.inl rfl | exact Or.inr rfl)))
  (mss_cons (ms_set 5 sc_law.nd (me_fn (t__law_draw T) hr (by rfl) tk (ma_cons (me_var 1) (ma_cons (me_var 2) ma_nil))))
  (mss_cons (ms_set 3 sc_law.nd (me_op or_add (me_var 3) (me_tup (ma_cons (me_tup (ma_cons (me_var 5) (ma_cons (me_op or_mod (me_callTy cr_int (by rfl) T.n_int (ma_cons (me_op or_add (me_op or_add (me_var 5) me_int) (me_fn (t__law_draw T) hr (by rfl) tk (ma_cons (me_var 1) (ma_cons (me_op or_sub (me_var 2) me_int) ma_nil)))) ma_nil)) (me_var 2)) (ma_cons (me_op or_sub (me_fn (t__law_draw T) hr (by rfl) tk (ma_cons (me_var 1) (ma_cons me_int ma_nil))) me_int) ma_nil)))) ma_nil))))
  mss_nil)))
  (mss_cons (ms_set 6 sc_law.nd (me_tup (ma_cons (me_fn (t__law_draw T) hr (by rfl) tk (ma_cons (me_var 1) (ma_cons (me_var 2) ma_nil))) (ma_cons (me_fn (t__law_draw T) hr (by rfl) tk (ma_cons (me_var 1) (ma_cons (me_var 2) ma_nil))) (ma_cons (me_op or_sub (me_fn (t__law_draw T) hr (by rfl) tk (ma_cons (me_var 1) (ma_cons me_int ma_nil))) me_int) ma_nil)))))
  (mss_cons (ms_set 7 sc_law.nd (me_fn (t__law_all_rows T) hr (by rfl) tk (ma_cons (me_var 2) (ma_cons me_int ma_nil))))
  (mss_cons (ms_setC 8 rfl sc_law.nd (mi_seq (me_var 7)) (blkOk_by (own := [("row", 9)]) (by kernel_rfl)) (fun _ _ _ _ _ => (mg_nm (pg_name (i := 9) sc_law.nd rfl (by first | exact Or.inl rfl | exact Or.inr rfl)))) (fun _ _ _ _ _ => (mts_one (mt_val (me_fn (t__law_fit T) hr (by rfl) takes0 (ma_cons (me_var 9) (ma_cons (me_var 3) ma_nil)))))) (fun _ _ _ _ _ => (me_var 9)))
  (mss_cons (ms_setC 10 rfl sc_law.nd (mi_seq (me_var 8)) (blkOk_by (own := [("row", 9)]) (by kernel_rfl)) (fun _ _ _ _ _ => (mg_nm (pg_name (i := 9) sc_law.nd rfl (by first | exact Or.inl rfl | exact Or.inr rfl)))) (fun _ _ _ _ _ => (mts_one (mt_not (mt_val (me_fn (t__law_fit T) hr (by rfl) takes0 (ma_cons (me_var 9) (ma_cons (me_lst (ma_cons (me_var 6) ma_nil)) ma_nil))))))) (fun _ _ _ _ _ => (me_var 9)))
  (mss_cons (ms_set 11 sc_law.nd (me_fn (t_clash T) hr (by rfl) tk (ma_cons (me_var 3) ma_nil)))
  (mss_cons (ms_if (mt_w (mw_or (mt_cmp (or_ne hr) (me_cmp or_isN (me_var 11) me_none) (me_gc (me_cmp (or_ne hr) (me_var 8) (me_lst ma_nil)))) (mw_or1 (mt_w (mw_and (mt_cmp or_notN (me_var 11) me_none) (mw_and1 (mt_not (mt_val (me_fn (t_proves T) hr (by rfl) tk (ma_cons (me_var 3) (ma_cons (me_tup (ma_cons me_int (ma_cons me_int (ma_cons (me_un or_neg me_int) ma_nil)))) (ma_cons (me_var 11) ma_nil))))))))))))
  (mss_cons (ms_ret me_bool)
  mss_nil)
  mss_nil)
  (mss_cons (ms_set 11 sc_law.nd (me_fn (t_chain T) hr (by rfl) tk (ma_cons (me_var 3) (ma_cons (me_var 6) ma_nil))))
  (mss_cons (ms_if (mt_w (mw_or (mt_cmp (or_ne hr) (me_cmp or_isN (me_var 11) me_none) (me_gc (me_cmp (or_ne hr) (me_var 10) (me_lst ma_nil)))) (mw_or1 (mt_w (mw_and (mt_cmp or_notN (me_var 11) me_none) (mw_and1 (mt_not (mt_val (me_fn (t_proves T) hr (by rfl) tk (ma_cons (me_var 3) (ma_cons (me_var 6) (ma_cons (me_var 11) ma_nil))))))))))))
  (mss_cons (ms_ret me_bool)
  mss_nil)
  mss_nil)
  (mss_cons (ms_set 11 sc_law.nd (me_fn (t_numbers_for T) hr (by rfl) tk (ma_cons (me_var 3) (ma_cons (me_var 2) ma_nil))))
  (mss_cons (ms_if (mt_gc (mt_cmp (or_eq hr) (me_var 8) (me_lst ma_nil)))
  (mss_cons (ms_if (mt_cmp or_notN (me_var 11) me_none)
  (mss_cons (ms_ret me_bool)
  mss_nil)
  mss_nil)
  mss_nil)
  (mss_cons (ms_if (mt_w (mw_or (mt_not (mt_val (me_fn (t__law_right_numbers T) hr (by rfl) tk (ma_cons (me_var 11) (ma_cons (me_var 3) (ma_cons (me_var 2) ma_nil)))))) (mw_or1 (mt_cmp or_notB (me_fn (t_fulfil T) hr (by rfl) tk (ma_cons (me_var 11) (ma_cons (me_var 3) ma_nil))) me_bool))))
  (mss_cons (ms_ret me_bool)
  mss_nil)
  mss_nil)
  mss_nil))
  (mss_cons (ms_set 11 sc_law.nd (me_fn (t_against T) hr (by rfl) tk (ma_cons (me_var 3) (ma_cons (me_var 6) (ma_cons (me_var 2) ma_nil)))))
  (mss_cons (ms_if (mt_gc (mt_cmp (or_eq hr) (me_var 10) (me_lst ma_nil)))
  (mss_cons (ms_ret (me_cmp or_isN (me_var 11) me_none))
  mss_nil)
  mss_nil)
  (mss_cons (ms_ret (me_and (me_fn (t__law_right_numbers T) hr (by rfl) tk (ma_cons (me_var 11) (ma_cons (me_var 3) (ma_cons (me_var 2) ma_nil)))) (me_and (me_not (me_fn (t__law_fit T) hr (by rfl) tk (ma_cons (me_var 11) (ma_cons (me_lst (ma_cons (me_var 6) ma_nil)) ma_nil)))) (me_one (me_cmp or_isB (me_fn (t_fulfil T) hr (by rfl) tk (ma_cons (me_var 11) (ma_cons (me_tup (ma_cons (me_var 6) ma_nil)) ma_nil))) me_bool)))))
  mss_nil))))))))))))))))))
end
end Wk
end

section
set_option maxHeartbeats 0
namespace Wk
open PySem PySem.Spec PyProof.Rows L2 Mi Sem
def hfn : List He.FnD := [⟨("is_integer", none), "is_integer", "is_integer", defArgs s_is_integer, defBody s_is_integer, defScope s_is_integer⟩,
  ⟨("unknowns_of", none), "unknowns_of", "unknowns_of", defArgs s_unknowns_of, defBody s_unknowns_of, defScope s_unknowns_of⟩,
  ⟨("relaxed", none), "relaxed", "relaxed", defArgs s_relaxed, defBody s_relaxed, defScope s_relaxed⟩,
  ⟨("walked_round", none), "walked_round", "walked_round", defArgs s_walked_round, defBody s_walked_round, defScope s_walked_round⟩,
  ⟨("clash", none), "clash", "clash", defArgs s_clash, defBody s_clash, defScope s_clash⟩,
  ⟨("sums_to", none), "sums_to", "sums_to", defArgs s_sums_to, defBody s_sums_to, defScope s_sums_to⟩,
  ⟨("chain", none), "chain", "chain", defArgs s_chain, defBody s_chain, defScope s_chain⟩,
  ⟨("goes_on", none), "goes_on", "goes_on", defArgs s_goes_on, defBody s_goes_on, defScope s_goes_on⟩,
  ⟨("proves", none), "proves", "proves", defArgs s_proves, defBody s_proves, defScope s_proves⟩,
  ⟨("fulfil", none), "fulfil", "fulfil", defArgs s_fulfil, defBody s_fulfil, defScope s_fulfil⟩,
  ⟨("numbers_for", none), "numbers_for", "numbers_for", defArgs s_numbers_for, defBody s_numbers_for, defScope s_numbers_for⟩,
  ⟨("against", none), "against", "against", defArgs s_against, defBody s_against, defScope s_against⟩,
  ⟨("_law_cell", none), "_law_cell", "_law_cell", defArgs s__law_cell, defBody s__law_cell, defScope s__law_cell⟩,
  ⟨("_law_digits", none), "_law_digits", "_law_digits", defArgs s__law_digits, defBody s__law_digits, defScope s__law_digits⟩,
  ⟨("_law_draw", none), "_law_draw", "_law_draw", defArgs s__law_draw, defBody s__law_draw, defScope s__law_draw⟩,
  ⟨("_law_all_rows", none), "_law_all_rows", "_law_all_rows", defArgs s__law_all_rows, defBody s__law_all_rows, defScope s__law_all_rows⟩,
  ⟨("_law_fit", none), "_law_fit", "_law_fit", defArgs s__law_fit, defBody s__law_fit, defScope s__law_fit⟩,
  ⟨("_law_right_numbers", none), "_law_right_numbers", "_law_right_numbers", defArgs s__law_right_numbers, defBody s__law_right_numbers, defScope s__law_right_numbers⟩,
  ⟨("_law_sums", none), "_law_sums", "_law_sums", defArgs s__law_sums, defBody s__law_sums, defScope s__law_sums⟩,
  ⟨("_law_follows", none), "_law_follows", "_law_follows", defArgs s__law_follows, defBody s__law_follows, defScope s__law_follows⟩,
  ⟨("_law_many", none), "_law_many", "_law_many", defArgs s__law_many, defBody s__law_many, defScope s__law_many⟩,
  ⟨("law", none), "law", "law", defArgs s_law, defBody s_law, defScope s_law⟩]
def hfa : List He.Fa := [.glo "is_integer", .keep "is_integer", .glo "unknowns_of", .keep "unknowns_of", .glo "relaxed", .keep "relaxed", .glo "walked_round", .keep "walked_round", .glo "clash", .keep "clash", .glo "sums_to", .keep "sums_to", .glo "chain", .keep "chain", .glo "goes_on", .keep "goes_on", .glo "proves", .keep "proves", .glo "fulfil", .keep "fulfil", .glo "numbers_for", .keep "numbers_for", .glo "against", .keep "against", .glo "_law_cell", .keep "_law_cell", .glo "_law_digits", .keep "_law_digits", .glo "_law_draw", .keep "_law_draw", .glo "_law_all_rows", .keep "_law_all_rows", .glo "_law_fit", .keep "_law_fit", .glo "_law_right_numbers", .keep "_law_right_numbers", .glo "_law_sums", .keep "_law_sums", .glo "_law_follows", .keep "_law_follows", .glo "_law_many", .keep "_law_many", .glo "law", .keep "law", .free "bool", .free "dict", .free "int", .free "isinstance", .free "len", .free "min", .free "range", .free "sorted", .free "tuple"]
theorem txt {K : Fr} {mg : Mg} {h : Heap} (KI : K.In h) (G : h.Ns mainGlobals mg) (c : He.SaysE hfa hfn K) : Txt K mg where
  d_is_integer := .of KI G c 0 (d := ⟨("is_integer", none), "is_integer", "is_integer", defArgs s_is_integer, defBody s_is_integer, defScope s_is_integer⟩) rfl rfl rfl rfl
  d_unknowns_of := .of KI G c 1 (d := ⟨("unknowns_of", none), "unknowns_of", "unknowns_of", defArgs s_unknowns_of, defBody s_unknowns_of, defScope s_unknowns_of⟩) rfl rfl rfl rfl
  d_relaxed := .of KI G c 2 (d := ⟨("relaxed", none), "relaxed", "relaxed", defArgs s_relaxed, defBody s_relaxed, defScope s_relaxed⟩) rfl rfl rfl rfl
  d_walked_round := .of KI G c 3 (d := ⟨("walked_round", none), "walked_round", "walked_round", defArgs s_walked_round, defBody s_walked_round, defScope s_walked_round⟩) rfl rfl rfl rfl
  d_clash := .of KI G c 4 (d := ⟨("clash", none), "clash", "clash", defArgs s_clash, defBody s_clash, defScope s_clash⟩) rfl rfl rfl rfl
  d_sums_to := .of KI G c 5 (d := ⟨("sums_to", none), "sums_to", "sums_to", defArgs s_sums_to, defBody s_sums_to, defScope s_sums_to⟩) rfl rfl rfl rfl
  d_chain := .of KI G c 6 (d := ⟨("chain", none), "chain", "chain", defArgs s_chain, defBody s_chain, defScope s_chain⟩) rfl rfl rfl rfl
  d_goes_on := .of KI G c 7 (d := ⟨("goes_on", none), "goes_on", "goes_on", defArgs s_goes_on, defBody s_goes_on, defScope s_goes_on⟩) rfl rfl rfl rfl
  d_proves := .of KI G c 8 (d := ⟨("proves", none), "proves", "proves", defArgs s_proves, defBody s_proves, defScope s_proves⟩) rfl rfl rfl rfl
  d_fulfil := .of KI G c 9 (d := ⟨("fulfil", none), "fulfil", "fulfil", defArgs s_fulfil, defBody s_fulfil, defScope s_fulfil⟩) rfl rfl rfl rfl
  d_numbers_for := .of KI G c 10 (d := ⟨("numbers_for", none), "numbers_for", "numbers_for", defArgs s_numbers_for, defBody s_numbers_for, defScope s_numbers_for⟩) rfl rfl rfl rfl
  d_against := .of KI G c 11 (d := ⟨("against", none), "against", "against", defArgs s_against, defBody s_against, defScope s_against⟩) rfl rfl rfl rfl
  d__law_cell := .of KI G c 12 (d := ⟨("_law_cell", none), "_law_cell", "_law_cell", defArgs s__law_cell, defBody s__law_cell, defScope s__law_cell⟩) rfl rfl rfl rfl
  d__law_digits := .of KI G c 13 (d := ⟨("_law_digits", none), "_law_digits", "_law_digits", defArgs s__law_digits, defBody s__law_digits, defScope s__law_digits⟩) rfl rfl rfl rfl
  d__law_draw := .of KI G c 14 (d := ⟨("_law_draw", none), "_law_draw", "_law_draw", defArgs s__law_draw, defBody s__law_draw, defScope s__law_draw⟩) rfl rfl rfl rfl
  d__law_all_rows := .of KI G c 15 (d := ⟨("_law_all_rows", none), "_law_all_rows", "_law_all_rows", defArgs s__law_all_rows, defBody s__law_all_rows, defScope s__law_all_rows⟩) rfl rfl rfl rfl
  d__law_fit := .of KI G c 16 (d := ⟨("_law_fit", none), "_law_fit", "_law_fit", defArgs s__law_fit, defBody s__law_fit, defScope s__law_fit⟩) rfl rfl rfl rfl
  d__law_right_numbers := .of KI G c 17 (d := ⟨("_law_right_numbers", none), "_law_right_numbers", "_law_right_numbers", defArgs s__law_right_numbers, defBody s__law_right_numbers, defScope s__law_right_numbers⟩) rfl rfl rfl rfl
  d__law_sums := .of KI G c 18 (d := ⟨("_law_sums", none), "_law_sums", "_law_sums", defArgs s__law_sums, defBody s__law_sums, defScope s__law_sums⟩) rfl rfl rfl rfl
  d__law_follows := .of KI G c 19 (d := ⟨("_law_follows", none), "_law_follows", "_law_follows", defArgs s__law_follows, defBody s__law_follows, defScope s__law_follows⟩) rfl rfl rfl rfl
  d__law_many := .of KI G c 20 (d := ⟨("_law_many", none), "_law_many", "_law_many", defArgs s__law_many, defBody s__law_many, defScope s__law_many⟩) rfl rfl rfl rfl
  d_law := .of KI G c 21 (d := ⟨("law", none), "law", "law", defArgs s_law, defBody s_law, defScope s_law⟩) rfl rfl rfl rfl
  n_bool := He.free_ok KI G (c.fact 44 (f := .free "bool") rfl)
  n_dict := He.free_ok KI G (c.fact 45 (f := .free "dict") rfl)
  n_int := He.free_ok KI G (c.fact 46 (f := .free "int") rfl)
  n_isinstance := He.free_ok KI G (c.fact 47 (f := .free "isinstance") rfl)
  n_len := He.free_ok KI G (c.fact 48 (f := .free "len") rfl)
  n_min := He.free_ok KI G (c.fact 49 (f := .free "min") rfl)
  n_range := He.free_ok KI G (c.fact 50 (f := .free "range") rfl)
  n_sorted := He.free_ok KI G (c.fact 51 (f := .free "sorted") rfl)
  n_tuple := He.free_ok KI G (c.fact 52 (f := .free "tuple") rfl)
abbrev Rw : PySem.W.OpenRow := PySem.W.OpenLaw.row PySem.Challenge.rw_claimfall_k00_follows_by_numbers
abbrev hk : PySem.W.Hook := He.hookE 4 hfa hfn
def ob (s : PySem.W.SharedT) : He.Al := He.obsG 4 hfa hfn (HandSHeadRun.getT s)
theorem ob_eq (s : PySem.W.SharedT) : ob s = hk.obs s.abs := He.obsG_eq (HandSHeadRun.getT_eq s)
def loose0 : List PySem.Str := ["is_integer", "unknowns_of", "relaxed", "walked_round", "clash", "sums_to", "chain", "goes_on", "proves", "fulfil", "numbers_for", "against", "_law_cell", "_law_digits", "_law_draw", "_law_all_rows", "_law_fit", "_law_right_numbers", "_law_sums", "_law_follows", "_law_many"]
def loose : List PySem.Str := loose0
theorem run (w : World) : HandSHeadRun.RunEq Rw (PySem.W.view Rw.prog [23]) hk ob 6000 loose w := by
  intro os
  kernel_rfl
end Wk
end

open PySem PySem.W PySem.Calls PyProof.Rows
set_option maxRecDepth 100000 in
set_option maxHeartbeats 0 in
theorem PySem.Challenge.cw_claimfall_k00_follows_by_numbers_holds : PySem.Challenge.rw_claimfall_k00_follows_by_numbers.Holds := by
  w_on; o_law
  refine HandSHeadRun.head_any (r := OpenLaw.row PySem.Challenge.rw_claimfall_k00_follows_by_numbers) (q := view (OpenLaw.row PySem.Challenge.rw_claimfall_k00_follows_by_numbers).prog [23]) (H := Wk.hk) (ob := Wk.ob) (M := 6000) (loose := Wk.loose) (d := HandSHeadRun.topDef (OpenLaw.row PySem.Challenge.rw_claimfall_k00_follows_by_numbers).prog 23) (kwd := []) Wk.ob_eq
    (by kernel_rfl) (fun s => by kernel_rfl) Wk.run (by kernel_rfl) (by kernel_rfl) (by kernel_rfl) (by rfl) (by first | assumption | decide +kernel) (by decide +kernel) ⟨rfl, rfl, rfl, rfl, rfl, by decide +kernel⟩ ?hw ?hc
  case hw => w_witness2
  case hc =>
    refine Mi.law_end (l := PySem.Challenge.rw_claimfall_k00_follows_by_numbers) (k := 6) (F := Sem.m_law) rfl (by kernel_rfl) ⟨rfl, by decide, by decide⟩ (by kernel_rfl) ?F Spec.law_ok
    intro w mg h Y G
    obtain ⟨K, KI, c⟩ := Y
    exact ⟨K, KI, fun base KB GB => Wk.t_law (Wk.txt KB GB c)⟩
