import PyProof.Rows.All
import PyProof.Lay0
import PyProof.P3Statements
import PyProof.Claim2
import KE.KDictPairs
import PyProof.Rows.StrMeet
import KE.KExcSuper
import KE.KExcIs
import HandS.ExcInit
import HandS.ExcField
import HandS.Nested
import HandS.TryOnly
import HandS.Head0
import HandS.Head1
import HandS.Head2
import HandS.HeadEnd
import HandS.HeadHook1
import HandS.Ends
import HandS.IsInst
import HandS.TupLen
import HandS.Text
import HandS.WordsDict
import HandS.Wide
import HandS.TupAny
import HandS.TupLe
import HandS.Deep
import HandS.Dict
import HandS.Conv
import HandS.WordsExc
import HandS.Iter
import Wide.All
import OpenK.AllK
import Wide.FinOn
import HandS.Base
import HandS.Call
import HandS.List
import HandS.Comp
import HandS.Exc
import HandS.ExcOwn
import HandS.Words
import HandS.ExcIs
import HandS.More
import HandS.SortInts
import PySem.Challenge.RW_claimfall_k21_calls_are_checked
set_option Elab.async false
set_option linter.all false
set_option maxRecDepth 100000
section
/-! MiS: a small deterministic evaluator's pieces: values (tuples are plain data), a heap of the lists, dicts and instances, and the meaning of each construct as a plain function. No program in sight. -/
namespace Mi
open PySem (PyData Str)

abbrev Key := Sum Int Str
/-- a value: plain data; an object; a tuple that holds objects -/
inductive W where
  | d (x : PyData)
  | ref (a : Nat)
  | mix (xs : List W)
/-- an object -/
inductive O where
  | lst (xs : List W)
  | dk (kvs : List (Key × W))
  | dt (kvs : List (List Key × W))
  | ins (c : Str) (fs : List (Str × W))
abbrev Hh := List O
/-- an exception: its class, its own fields -/
structure Ex where
  cls : Str
  fs : List (Str × PyData)
inductive R (α : Type) where
  | ok (x : α) (h : Hh)
  | ex (e : Ex) (h : Hh)
  | bad
abbrev Loc := List (Option W)
abbrev EM := Loc → Hh → R W
abbrev TM := Loc → Hh → R Bool
abbrev AM := Loc → Hh → R (List W)
/-- an operation by values: nothing is raised -/
abbrev Op1 := W → Hh → Option (W × Hh)
abbrev Op2 := W → W → Hh → Option (W × Hh)
abbrev OpN := List W → Hh → Option (W × Hh)
/-- a def -/
abbrev Fn := List W → Hh → R W

def R.bind {α β : Type} (r : R α) (f : α → Hh → R β) : R β := match r with
  | .ok x h => f x h
  | .ex e h => .ex e h
  | .bad => .bad
def R.of {α : Type} : Option (α × Hh) → R α
  | some (x, h) => .ok x h
  | none => .bad
@[simp] theorem R.bind_ok {α β : Type} (x : α) (h : Hh) (f : α → Hh → R β) : (R.ok x h).bind f = f x h := (rfl)
@[simp] theorem R.bind_ex {α β : Type} (e : Ex) (h : Hh) (f : α → Hh → R β) : (R.ex e h : R α).bind f = .ex e h := (rfl)
@[simp] theorem R.bind_bad {α β : Type} (f : α → Hh → R β) : (R.bad : R α).bind f = .bad := (rfl)
@[simp] theorem R.of_some {α : Type} (x : α) (h : Hh) : R.of (some (x, h)) = .ok x h := (rfl)
@[simp] theorem R.of_none {α : Type} : R.of (none : Option (α × Hh)) = .bad := (rfl)

abbrev sizeMax : Nat := 16777216

/-! ### values -/
abbrev W.int (i : Int) : W := .d (.int i)
abbrev W.bool (b : Bool) : W := .d (.bool b)
abbrev W.str (s : Str) : W := .d (.str s)
abbrev W.non : W := .d .none
def allD : List W → Option (List PyData)
  | [] => some []
  | .d x :: r => (allD r).map (x :: ·)
  | _ :: _ => none
def mkTup (ws : List W) : W := match allD ws with
  | some xs => .d (.tuple xs)
  | none => .mix ws
@[simp] theorem allD_map (xs : List PyData) : allD (xs.map W.d) = some xs := by
  induction xs with
  | nil => rfl
  | cons x r ih => simp [allD, ih]
@[simp] theorem mkTup_map (xs : List PyData) : mkTup (xs.map W.d) = .d (.tuple xs) := by simp [mkTup]
/-- the items of a tuple -/
def W.items : W → Option (List W)
  | .d (.tuple xs) => some (xs.map .d)
  | .mix ws => some ws
  | _ => none
@[simp] theorem W.items_d (xs : List PyData) : (W.d (.tuple xs)).items = some (xs.map .d) := (rfl)
/-! no object from place n on -/
mutual
def W.und (n : Nat) : W → Bool
  | .d _ => true
  | .ref a => decide (a < n)
  | .mix ws => W.unds n ws
def W.unds (n : Nat) : List W → Bool
  | [] => true
  | w :: ws => w.und n && W.unds n ws
end
@[simp] theorem W.und_d (n : Nat) (x : PyData) : (W.d x).und n = true := by simp [W.und]
@[simp] theorem W.und_ref (n a : Nat) : (W.ref a).und n = decide (a < n) := by simp [W.und]
def O.und (n : Nat) : O → Bool
  | .lst ws => ws.all (W.und n)
  | .dk kvs => kvs.all fun kv => kv.2.und n
  | .dt kvs => kvs.all fun kv => kv.2.und n
  | .ins _ fs => fs.all fun kv => kv.2.und n

open Classical in
/-- what is left behind a call: no object that nobody can reach -/
noncomputable def gc (M : Hh) (w : W) (M' : Hh) : Hh :=
  if w.und M.length = true ∧ (M'.take M.length = M ∨ ((M'.take M.length).all (O.und M.length) = true ∧ M.length ≤ M'.length)) then M'.take M.length else M'
theorem gc_same (M : Hh) (w : W) (h : w.und M.length = true) : gc M w M = M := by simp [gc, h]
theorem gc_app (M G : Hh) (w : W) (h : w.und M.length = true) : gc M w (M ++ G) = M := by simp [gc, h]
@[simp] theorem gc_d (M : Hh) (x : PyData) : gc M (.d x) M = M := gc_same _ _ (by simp)
@[simp] theorem gc_d_app (M G : Hh) (x : PyData) : gc M (.d x) (M ++ G) = M := gc_app _ _ _ (by simp)

/-! ### expressions -/
def eVar (i : Nat) : EM := fun L h => match L[i]? with
  | some (some w) => .ok w h
  | _ => .bad
def eCon (w : W) : EM := fun _ h => .ok w h
def aNil : AM := fun _ h => .ok [] h
def aCons (a : EM) (r : AM) : AM := fun L h => (a L h).bind fun x h => (r L h).bind fun xs h => .ok (x :: xs) h
def eTup (a : AM) : EM := fun L h => (a L h).bind fun xs h => if xs.length ≤ sizeMax then .ok (mkTup xs) h else .bad
def eLst (a : AM) : EM := fun L h => (a L h).bind fun xs h => if xs.length ≤ sizeMax then .ok (.ref h.length) (h ++ [.lst xs]) else .bad
def eOp1 (f : Op1) (a : EM) : EM := fun L h => (a L h).bind fun x h => .of (f x h)
def eOp2 (f : Op2) (a b : EM) : EM := fun L h => (a L h).bind fun x h => (b L h).bind fun y h => .of (f x y h)
def eOpN (f : OpN) (a : AM) : EM := fun L h => (a L h).bind fun xs h => .of (f xs h)
def eCall (f : Fn) (a : AM) : EM := fun L h => (a L h).bind fun xs h => f xs h
def eIf (t : TM) (a b : EM) : EM := fun L h => (t L h).bind fun c h => if c = true then a L h else b L h
/-- a value that is a bool -/
def asBool : W → Option Bool
  | .d (.bool b) => some b
  | _ => none
def eAnd (a b : EM) : EM := fun L h => (a L h).bind fun x h => match asBool x with
  | some true => b L h
  | some false => .ok (W.bool false) h
  | none => .bad
def eOr (a b : EM) : EM := fun L h => (a L h).bind fun x h => match asBool x with
  | some true => .ok (W.bool true) h
  | some false => b L h
  | none => .bad
def eNot (a : EM) : EM := fun L h => (a L h).bind fun x h => match asBool x with
  | some c => .ok (W.bool !c) h
  | none => .bad
/-- a f b g c, b asked once -/
def eChain (f g : Op2) (a b c : EM) : EM := fun L h => (a L h).bind fun x h => (b L h).bind fun y h => (R.of (f x y h)).bind fun r h => match asBool r with
  | some true => (c L h).bind fun z h => .of (g y z h)
  | some false => .ok (W.bool false) h
  | none => .bad
open Classical in
noncomputable def eGc (m : EM) : EM := fun L h => (m L h).bind fun w h' => .ok w (if w.und h.length = true ∧ h'.take h.length = h then h else h')

/-! ### tests -/
def tVal (a : EM) : TM := fun L h => (a L h).bind fun x h => match asBool x with
  | some b => .ok b h
  | none => .bad
def tAnd (a b : TM) : TM := fun L h => (a L h).bind fun c h => if c = true then b L h else .ok false h
def tOr (a b : TM) : TM := fun L h => (a L h).bind fun c h => if c = true then .ok true h else b L h
def tNot (a : TM) : TM := fun L h => (a L h).bind fun c h => .ok (!c) h
def tYes : TM := fun _ h => .ok true h

/-! ### what is walked -/
inductive Src where
  | tp (ws : List W)
  | ls (a : Nat) (ws : List W)
  | rg (lo : Int) (n : Nat)
def rgItems (lo : Int) (n : Nat) : List W := (List.range n).map fun (i : Nat) => W.int (lo + (i : Int))
def Src.items : Src → List W
  | .tp ws => ws
  | .ls _ ws => ws
  | .rg lo n => rgItems lo n
/-- the list that is walked stands as it was -/
def Src.ok : Src → Hh → Prop
  | .ls a ws, h => h[a]? = some (.lst ws)
  | _, _ => True
abbrev IM := Loc → Hh → R Src
/-- the signs of a text -/
def signs (z : Str) : List W := z.cps.toList.map fun c => W.str ⟨#[c]⟩
def iText (a : EM) : IM := fun L h => (a L h).bind fun x h => match x with
  | .d (.str z) => .ok (.tp (signs z)) h
  | _ => .bad
def iSeq (a : EM) : IM := fun L h => (a L h).bind fun x h => match x with
  | .ref a => (match h[a]? with
    | some (.lst ws) => .ok (.ls a ws) h
    | _ => .bad)
  | w => (match w.items with
    | some ws => .ok (.tp ws) h
    | none => .bad)
def iRange1 (a : EM) : IM := fun L h => (a L h).bind fun x h => match x with
  | .d (.int n) => if -4611686018427387904 ≤ n ∧ n < 4611686018427387904 then .ok (.rg 0 n.toNat) h else .bad
  | _ => .bad
def iRange2 (a b : EM) : IM := fun L h => (a L h).bind fun x h => (b L h).bind fun y h => match x, y with
  | .d (.int lo), .d (.int hi) => if (-4611686018427387904 ≤ lo ∧ lo < 4611686018427387904) ∧ -4611686018427387904 ≤ hi ∧ hi < 4611686018427387904 then .ok (.rg lo (hi - lo).toNat) h else .bad
  | _, _ => .bad

/-! ### targets -/
inductive Tg where
  | nm (i : Nat)
  | tp (ts : List Nat)
def setAll : List Nat → List W → Loc → Option Loc
  | [], [], L => some L
  | i :: is, w :: ws, L => setAll is ws (L.set i (some w))
  | _, _, _ => none
def Tg.put : Tg → W → Loc → Option Loc
  | .nm i, w, L => some (L.set i (some w))
  | .tp is, w, L => match w.items with
    | some ws => setAll is ws L
    | none => none

def Tg.ixs : Tg → List Nat
  | .nm i => [i]
  | .tp is => is
/-! ### list comprehensions -/
def wipeL (L : Loc) : List Nat → Loc
  | [] => L
  | v :: vs => (wipeL L vs).set v none
open Classical in
/-- the turns of a comprehension: D the new list -/
noncomputable def compL (ok : Hh → Prop) (vs : List Nat) (g : Tg) (t : TM) (e : EM) (D : Nat) (L : Loc) : List W → Hh → R W
  | [], h => if ok h then .ok (.ref D) h else .bad
  | w :: ws, h => if ok h then (match g.put w (wipeL L vs) with
    | none => .bad
    | some L1 => (t L1 h).bind fun b h => if b = true then (e L1 h).bind fun x h => (match h[D]? with
        | some (.lst acc) => if acc.length < sizeMax then compL ok vs g t e D L ws (h.set D (.lst (acc ++ [x]))) else .bad
        | _ => .bad)
      else compL ok vs g t e D L ws h) else .bad
/-- what a comprehension raises is not served -/
def noEx {α : Type} : R α → R α
  | .ex _ _ => .bad
  | r => r
noncomputable def eComp (i : IM) (vs : List Nat) (g : Tg) (t : TM) (e : EM) : EM := fun L h => (i L h).bind fun s h =>
  compL s.ok vs g (fun L h => noEx (t L h)) (fun L h => noEx (e L h)) h.length L s.items (h ++ [.lst []])

/-! ### statements -/
inductive Out where
  | nx (L : Loc) (h : Hh)
  | rt (w : W) (h : Hh)
  | bk (L : Loc) (h : Hh)
  | ct (L : Loc) (h : Hh)
  | ex (e : Ex) (L : Loc) (h : Hh)
  | bad
abbrev SM := Loc → Hh → Out
def R.then {α : Type} (r : R α) (L : Loc) (f : α → Hh → Out) : Out := match r with
  | .ok x h => f x h
  | .ex e h => .ex e L h
  | .bad => .bad
@[simp] theorem R.then_ok {α : Type} (x : α) (h : Hh) (L : Loc) (f : α → Hh → Out) : (R.ok x h).then L f = f x h := (rfl)
@[simp] theorem R.then_ex {α : Type} (e : Ex) (h : Hh) (L : Loc) (f : α → Hh → Out) : (R.ex e h : R α).then L f = .ex e L h := (rfl)
@[simp] theorem R.then_bad {α : Type} (L : Loc) (f : α → Hh → Out) : (R.bad : R α).then L f = .bad := (rfl)
def Out.seq (o : Out) (f : SM) : Out := match o with
  | .nx L h => f L h
  | o => o
@[simp] theorem Out.seq_nx (L : Loc) (h : Hh) (f : SM) : (Out.nx L h).seq f = f L h := (rfl)
@[simp] theorem Out.seq_rt (w : W) (h : Hh) (f : SM) : (Out.rt w h).seq f = .rt w h := (rfl)
@[simp] theorem Out.seq_bk (L : Loc) (h : Hh) (f : SM) : (Out.bk L h).seq f = .bk L h := (rfl)
@[simp] theorem Out.seq_ct (L : Loc) (h : Hh) (f : SM) : (Out.ct L h).seq f = .ct L h := (rfl)
@[simp] theorem Out.seq_ex (e : Ex) (L : Loc) (h : Hh) (f : SM) : (Out.ex e L h).seq f = .ex e L h := (rfl)
@[simp] theorem Out.seq_bad (f : SM) : Out.bad.seq f = .bad := (rfl)
def sNil : SM := fun L h => .nx L h
def sCons (a b : SM) : SM := fun L h => (a L h).seq b
def sBreak : SM := fun L h => .bk L h
def sCont : SM := fun L h => .ct L h
def sExpr (e : EM) : SM := fun L h => (e L h).then L fun _ h => .nx L h
def sRet (e : EM) : SM := fun L h => (e L h).then L fun w h => .rt w h
def sRetN : SM := fun _ h => .rt .non h
def sIf (t : TM) (a b : SM) : SM := fun L h => (t L h).then L fun c h => if c = true then a L h else b L h
def sAsg (g : Tg) (e : EM) : SM := fun L h => (e L h).then L fun w h => match g.put w L with
  | some L' => .nx L' h
  | none => .bad
/-- o[i] = e: the value first -/
def sSet (f : W → W → W → Hh → Option Hh) (o i e : EM) : SM := fun L h => (e L h).then L fun v h => (o L h).then L fun x h => (i L h).then L fun y h => match f x y v h with
  | some h => .nx L h
  | none => .bad
open Classical in
noncomputable def forL (ok : Hh → Prop) (g : Tg) (body : SM) : List W → Loc → Hh → Out
  | [], L, h => if ok h then .nx L h else .bad
  | w :: ws, L, h => if ok h then (match g.put w L with
    | none => .bad
    | some L1 => (match body L1 h with
      | .nx L2 h2 => forL ok g body ws L2 h2
      | .ct L2 h2 => forL ok g body ws L2 h2
      | .bk L2 h2 => .nx L2 h2
      | o => o)) else .bad
noncomputable def sFor (i : IM) (g : Tg) (body : SM) : SM := fun L h => (i L h).then L fun s h => forL s.ok g body s.items L h
def whileL (t : TM) (body : SM) : Nat → Loc → Hh → Out
  | 0, _, _ => .bad
  | n + 1, L, h => (t L h).then L fun c h => if c = true then (match body L h with
      | .nx L2 h2 => whileL t body n L2 h2
      | .ct L2 h2 => whileL t body n L2 h2
      | .bk L2 h2 => .nx L2 h2
      | o => o) else .nx L h
/-- a while loop: the number of turns is bounded by n, which may depend on the state ahead of it -/
def sWhile (n : Nat) (t : TM) (body : SM) : SM := fun L h => whileL t body n L h

/-- names that are not asked any more -/
def forget (L : Loc) : List Nat → Loc
  | [] => L
  | v :: vs => (forget L vs).set v none
def locUnd (n : Nat) (L : Loc) : Bool := L.all fun o => match o with
  | some w => w.und n
  | none => true
open Classical in
noncomputable def gcS (M : Hh) (L : Loc) (M' : Hh) : Hh :=
  if locUnd M.length L = true ∧ (M'.take M.length = M ∨ ((M'.take M.length).all (O.und M.length) = true ∧ M.length ≤ M'.length)) then M'.take M.length else M'
/-- behind a block: names are forgotten, objects that nobody can reach are gone -/
noncomputable def sScope (dead : List Nat) (m : SM) : SM := fun L h => match m L h with
  | .nx L2 h2 => .nx (forget L2 dead) (gcS h (forget L2 dead) h2)
  | .ct L2 h2 => .ct (forget L2 dead) (gcS h (forget L2 dead) h2)
  | o => o
open Classical in
noncomputable def tGc (t : TM) : TM := fun L h => (t L h).bind fun b h' => .ok b (if h'.take h.length = h then h else h')
/-- a def of k slots by its body -/
def outR (h : Hh) : Out → R W
  | .rt w h' => .ok w h'
  | .nx _ h' => .ok .non h'
  | .ex e _ h' => .ex e h'
  | _ => .bad
noncomputable def tidy (h : Hh) : R W → R W
  | .ok w h' => .ok w (gc h w h')
  | r => r
noncomputable def fn (n k : Nat) (body : SM) : Fn := fun ws h => if ws.length = n then tidy h (outR h (body (ws.map some ++ List.replicate (k - ws.length) none) h)) else .bad
@[simp] theorem tidy_ok (h h' : Hh) (w : W) : tidy h (.ok w h') = .ok w (gc h w h') := (rfl)
@[simp] theorem tidy_ex (h h' : Hh) (e : Ex) : tidy h (.ex e h') = .ex e h' := (rfl)
@[simp] theorem outR_rt (h h' : Hh) (w : W) : outR h (.rt w h') = .ok w h' := (rfl)
@[simp] theorem outR_nx (h h' : Hh) (L : Loc) : outR h (.nx L h') = .ok .non h' := (rfl)
@[simp] theorem outR_ex (h h' : Hh) (e : Ex) (L : Loc) : outR h (.ex e L h') = .ex e h' := (rfl)
end Mi
end

section
/-! MiO: operations by values. -/
namespace Mi
open PySem (PyData Str)

/-! ### data of a value -/
def dataW (M : Hh) : Nat → W → Option PyData
  | _, .d x => some x
  | n + 1, .ref a => match M[a]? with
    | some (.lst ws) => (ws.mapM (dataW M n)).map .list
    | _ => none
  | n + 1, .mix ws => (ws.mapM (dataW M n)).map .tuple
  | 0, _ => none
abbrev dataDeep : Nat := 5
abbrev roomDeep : Nat := 62
@[simp] theorem dataW_d (M : Hh) (n : Nat) (x : PyData) : dataW M n (.d x) = some x := by cases n <;> rfl
@[simp] theorem mapM_dataW_d (M : Hh) (n : Nat) : ∀ xs : List PyData, (xs.map W.d).mapM (dataW M n) = some xs
  | [] => rfl
  | x :: xs => by simp [List.mapM_cons, mapM_dataW_d M n xs]

/-! ### numbers -/
def opAdd : Op2 := fun a b M => match a, b with
  | .d (.int i), .d (.int j) => some (.int (i + j), M)
  | .d (.str x), .d (.str y) => if x.length + y.length ≤ sizeMax then some (.str (x ++ y), M) else none
  | .ref p, .ref q => (match M[p]?, M[q]? with
    | some (.lst xs), some (.lst ys) => if xs.length + ys.length ≤ sizeMax then some (.ref M.length, M ++ [.lst (xs ++ ys)]) else none
    | _, _ => none)
  | a, b => (match a.items, b.items with
    | some xs, some ys => if xs.length + ys.length ≤ sizeMax then some (mkTup (xs ++ ys), M) else none
    | _, _ => none)
def opSub : Op2 := fun a b M => match a, b with
  | .d (.int i), .d (.int j) => some (.int (i - j), M)
  | _, _ => none
def opMul : Op2 := fun a b M => match a, b with
  | .d (.int i), .d (.int j) => if (-18446744073709551616 < i ∧ i < 18446744073709551616) ∨ (-18446744073709551616 < j ∧ j < 18446744073709551616) then some (.int (i * j), M) else none
  | .ref p, .d (.int k) => (match M[p]? with
    | some (.lst xs) => if (-9223372036854775808 ≤ k ∧ k < 9223372036854775808) ∧ xs.length * k.toNat ≤ sizeMax then some (.ref M.length, M ++ [.lst (List.replicate k.toNat xs).flatten]) else none
    | _ => none)
  | _, _ => none
def opFloorDiv : Op2 := fun a b M => match a, b with
  | .d (.int i), .d (.int j) => if 0 < j ∧ j.natAbs.log2 < 9000 then some (.int (i / j), M) else none
  | _, _ => none
def opMod : Op2 := fun a b M => match a, b with
  | .d (.int i), .d (.int j) => if 0 < j then some (.int (i % j), M) else none
  | _, _ => none
def opPow : Op2 := fun a b M => match a, b with
  | .d (.int i), .d (.int j) => if 0 ≤ j ∧ j ≤ 1000000 ∧ i.natAbs < 18446744073709551616 then some (.int (i ^ j.toNat), M) else none
  | _, _ => none
def opNeg : Op1 := fun a M => match a with
  | .d (.int i) => some (.int (-i), M)
  | _ => none

/-! ### comparisons -/
def opEqB (neg : Bool) : Op2 := fun a b M => match dataW M dataDeep a, dataW M dataDeep b with
  | some x, some y => if min x.depth y.depth ≤ roomDeep then some (.bool (neg != PyData.eqv x y), M) else none
  | _, _ => none
abbrev opEq : Op2 := opEqB false
abbrev opNe : Op2 := opEqB true
def cmpI (f : Int → Int → Bool) : Op2 := fun a b M => match a, b with
  | .d (.int i), .d (.int j) => some (.bool (f i j), M)
  | _, _ => none
abbrev opLt : Op2 := cmpI fun i j => decide (i < j)
abbrev opLe : Op2 := cmpI fun i j => decide (i ≤ j)
abbrev opGt : Op2 := cmpI fun i j => decide (j < i)
abbrev opGe : Op2 := cmpI fun i j => decide (j ≤ i)
def isN : W → Bool
  | .d .none => true
  | _ => false
def opIsN (neg : Bool) : Op2 := fun a b M => match b with
  | .d .none => some (.bool (neg != isN a), M)
  | _ => none
def opIsB (neg : Bool) : Op2 := fun a b M => match a, b with
  | .d (.bool i), .d (.bool j) => some (.bool (neg != decide (i = j)), M)
  | .ref _, .d (.bool _) => some (.bool neg, M)
  | _, _ => none
/-- a key of a dict: a number, a text -/
def keyW : W → Option Key
  | .d (.int i) => some (.inl i)
  | .d (.str x) => some (.inr x)
  | _ => none
def keyD : PyData → Option Key
  | .int i => some (.inl i)
  | .str x => some (.inr x)
  | _ => none
/-- a key that is a tuple: not served -/
def keysW : W → Option (List Key) := fun _ => none
def look {κ : Type} [DecidableEq κ] (kvs : List (κ × W)) (k : κ) : Option W := (kvs.find? fun kv => decide (kv.1 = k)).map (·.2)
def put {κ : Type} [DecidableEq κ] (kvs : List (κ × W)) (k : κ) (v : W) : List (κ × W) :=
  if kvs.any (fun kv => decide (kv.1 = k)) then kvs.map fun kv => if kv.1 = k then (kv.1, v) else kv else kvs ++ [(k, v)]
/-- what a dict holds at a key -/
def dget (o : O) (y : W) : Option (Option W) := match o with
  | .dk kvs => (keyW y).map (look kvs)
  | .dt kvs => (keysW y).map (look kvs)
  | _ => none
def opInB (neg : Bool) : Op2 := fun x c M => match c with
  | .ref p => (match M[p]? with
    | some (.lst ws) => (match dataW M dataDeep (.ref p), dataW M dataDeep x with
      | some (.list xs), some d => if min (PyData.depthAll xs) d.depth ≤ roomDeep then some (.bool (neg != xs.any fun z => PyData.eqv z d), M) else none
      | _, _ => none)
    | some o => (dget o x).map fun r => (.bool (neg != r.isSome), M)
    | none => none)
  | .d (.str z) => (match x with
    | .d (.str y) => if y.length = 1 then some (.bool (neg != decide (y.cps.toList.headD 0 ∈ z.cps.toList)), M) else none
    | _ => none)
  | c => (match dataW M dataDeep c, dataW M dataDeep x with
    | some (.tuple xs), some d => if min (PyData.depthAll xs) d.depth ≤ roomDeep then some (.bool (neg != xs.any fun z => PyData.eqv z d), M) else none
    | _, _ => none)
abbrev opIn : Op2 := opInB false
abbrev opNotIn : Op2 := opInB true

/-! ### subscripts -/
def ixN (n : Nat) (i : Int) : Option Nat := if 0 ≤ i then (if i < n then some i.toNat else none) else if -(n : Int) ≤ i then some (i + n).toNat else none
def atI {α : Type} (xs : List α) (i : Int) : Option α := (ixN xs.length i).bind fun j => xs[j]?
def opIx : Op2 := fun a b M => match a with
  | .ref p => (match M[p]? with
    | some (.lst ws) => (match b with
      | .d (.int i) => (atI ws i).map fun w => (w, M)
      | _ => none)
    | some o => (match dget o b with
      | some (some w) => some (w, M)
      | _ => none)
    | none => none)
  | .d (.list xs) => (match b with
    | .d (.int i) => (atI xs i).map fun w => (.d w, M)
    | _ => none)
  | .d (.str z) => (match b with
    | .d (.int i) => if z.length ≤ sizeMax then (atI z.cps.toList i).map fun c => (.str ⟨#[c]⟩, M) else none
    | _ => none)
  | a => (match a.items, b with
    | some ws, .d (.int i) => (atI ws i).map fun w => (w, M)
    | _, _ => none)
def setIx : W → W → W → Hh → Option Hh := fun o i v M => match o with
  | .ref p => (match M[p]? with
    | some (.lst ws) => (match i with
      | .d (.int k) => (ixN ws.length k).map fun j => M.set p (.lst (ws.set j v))
      | _ => none)
    | some (.dk kvs) => (match keyW i with
      | some k => if kvs.length < sizeMax then some (M.set p (.dk (put kvs k v))) else none
      | none => none)
    | some (.dt kvs) => (match keysW i with
      | some k => if kvs.length < sizeMax then some (M.set p (.dt (put kvs k v))) else none
      | none => none)
    | _ => none)
  | _ => none
/-- an end of a slice -/
def sIx (n d : Nat) : Option Int → Nat
  | none => d
  | some i => if i < 0 then (i + n).toNat else min i.toNat n
def cut {α : Type} (xs : List α) (lo hi : Option Int) : List α := (xs.drop (sIx xs.length 0 lo)).take (sIx xs.length xs.length hi - sIx xs.length 0 lo)
abbrev OpS := W → Option Int → Option Int → Hh → Option (W × Hh)
def opSl : OpS := fun a lo hi M => match a with
  | .ref p => (match M[p]? with
    | some (.lst ws) => some (.ref M.length, M ++ [.lst (cut ws lo hi)])
    | _ => none)
  | .d (.str z) => if z.length ≤ sizeMax then some (.str ⟨(cut z.cps.toList lo hi).toArray⟩, M) else none
  | a => (match a.items with
    | some ws => some (mkTup (cut ws lo hi), M)
    | none => none)
/-- an optional part -/
abbrev PM := Loc → Hh → R (Option Int)
def pNone : PM := fun _ h => .ok none h
def pSome (e : EM) : PM := fun L h => (e L h).bind fun x h => match x with
  | .d (.int i) => .ok (some i) h
  | _ => .bad
def eSl (f : OpS) (a : EM) (lo hi : PM) : EM := fun L h => (a L h).bind fun x h => (lo L h).bind fun l h => (hi L h).bind fun u h => .of (f x l u h)

/-! ### built-ins -/
def bLen : OpN := fun xs M => match xs with
  | [.ref p] => (match M[p]? with
    | some (.lst ws) => some (.int ws.length, M)
    | some (.dk kvs) => some (.int kvs.length, M)
    | some (.dt kvs) => some (.int kvs.length, M)
    | _ => none)
  | [.d (.list xs)] => some (.int xs.length, M)
  | [.d (.str z)] => if z.length ≤ sizeMax then some (.int z.length, M) else none
  | [w] => w.items.map fun ws => (.int ws.length, M)
  | _ => none
def bInt : OpN := fun xs M => match xs with
  | [.d (.int i)] => some (.int i, M)
  | [.d (.bool b)] => some (.int (if b then 1 else 0), M)
  | _ => none
def bTuple : OpN := fun xs M => match xs with
  | [.ref p] => (match M[p]? with
    | some (.lst ws) => some (mkTup ws, M)
    | _ => none)
  | [w] => w.items.map fun ws => (mkTup ws, M)
  | _ => none
def bList : OpN := fun xs M => match xs with
  | [.ref p] => (match M[p]? with
    | some (.lst ws) => some (.ref M.length, M ++ [.lst ws])
    | _ => none)
  | [w] => w.items.map fun ws => (.ref M.length, M ++ [.lst ws])
  | _ => none
/-- the built-in type of a value -/
def tyW (M : Hh) : W → Option String
  | .d .none => some "NoneType"
  | .d (.bool _) => some "bool"
  | .d (.int _) => some "int"
  | .d (.str _) => some "str"
  | .d (.list _) => some "list"
  | .d (.tuple _) => some "tuple"
  | .d (.dict _) => none
  | .mix _ => some "tuple"
  | .ref p => match M[p]? with
    | some (.lst _) => some "list"
    | some (.dk _) => some "dict"
    | some (.dt _) => some "dict"
    | _ => none
/-- isinstance(x, T), T a built-in type by name -/
def isI (T : String) : Op1 := fun w M => (tyW M w).map fun t => (.bool (t == T || (t == "bool" && T == "int")), M)
/-- isinstance(x, (T, U, ..)) -/
def isIs (Ts : List String) : Op1 := fun w M => (tyW M w).map fun t => (.bool (Ts.any fun T => t == T || (t == "bool" && T == "int")), M)
def bReprB : OpN := fun xs M => match xs with
  | [.d (.bool b)] => some (.str (if b then Str.ofString "True" else Str.ofString "False"), M)
  | _ => none
def isLst (h : Hh) : W → Bool
  | .ref p => (match h[p]? with
    | some (.lst _) => true
    | _ => false)
  | _ => false
/-- a method of a list -/
def eMetL (f : OpN) (o : EM) (a : AM) : EM := fun L h => (o L h).bind fun x h => if isLst h x = true then (a L h).bind fun xs h => .of (f (x :: xs) h) else .bad
/-- list.append, list.extend -/
def mAppend : OpN := fun xs M => match xs with
  | [.ref p, y] => (match M[p]? with
    | some (.lst ws) => if ws.length < sizeMax then some (.non, M.set p (.lst (ws ++ [y]))) else none
    | _ => none)
  | _ => none
def mExtend : OpN := fun xs M => match xs with
  | [.ref p, .ref q] => (match M[p]?, M[q]? with
    | some (.lst ws), some (.lst zs) => if ws.length + zs.length ≤ sizeMax then some (.non, M.set p (.lst (ws ++ zs))) else none
    | _, _ => none)
  | _ => none
end Mi
end

section
/-! MiO2: dicts made, sorted, least, greatest, sums. -/
namespace Mi
open PySem (PyData Str)
def merge {κ : Type} [DecidableEq κ] (kvs more : List (κ × W)) : List (κ × W) := more.foldl (fun acc kv => put acc kv.1 kv.2) kvs
def pairW (w : W) : Option (Key × W) := match w.items with
  | some [k, v] => (keyW k).map fun k => (k, v)
  | _ => none
def intW : W → Option Int
  | .d (.int i) => some i
  | _ => none
def sortI (ns : List Int) : List Int := ns.mergeSort fun a b => decide (a ≤ b)
def intK : Key → Option Int
  | .inl i => some i
  | .inr _ => none
/-- dict(..): of a list of pairs, of a dict -/
def bDict : OpN := fun xs M => match xs with
  | [.ref p] => (match M[p]? with
    | some (.lst ws) => (ws.mapM pairW).map fun kvs => (.ref M.length, M ++ [.dk (merge [] kvs)])
    | some (.dk kvs) => some (.ref M.length, M ++ [.dk kvs])
    | _ => none)
  | _ => none
def bSorted : OpN := fun xs M => match xs with
  | [.ref p] => (match M[p]? with
    | some (.lst ws) => (ws.mapM intW).map fun ns => (.ref M.length, M ++ [.lst ((sortI ns).map W.int)])
    | some (.dk kvs) => if kvs.length < 64 then ((kvs.map (·.1)).mapM intK).map fun ns => (.ref M.length, M ++ [.lst ((sortI ns).map W.int)]) else none
    | _ => none)
  | _ => none
def minI : List Int → Option Int
  | [] => none
  | x :: xs => some (xs.foldl min x)
def maxI : List Int → Option Int
  | [] => none
  | x :: xs => some (xs.foldl max x)
def bMin : OpN := fun xs M => match xs with
  | [.d (.int i), .d (.int j)] => some (.int (min i j), M)
  | [.ref p] => (match M[p]? with
    | some (.lst ws) => (ws.mapM intW).bind fun ns => (minI ns).map fun m => (.int m, M)
    | _ => none)
  | _ => none
def bMax : OpN := fun xs M => match xs with
  | [.d (.int i), .d (.int j)] => some (.int (max i j), M)
  | [.ref p] => (match M[p]? with
    | some (.lst ws) => (ws.mapM intW).bind fun ns => (maxI ns).map fun m => (.int m, M)
    | _ => none)
  | _ => none
def bSum : OpN := fun xs M => match xs with
  | [.ref p] => (match M[p]? with
    | some (.lst ws) => (ws.mapM intW).map fun ns => (.int ns.sum, M)
    | _ => none)
  | _ => none
/-- {} for keys that are numbers and texts; for tuples -/
def eNewK : EM := fun _ h => .ok (.ref h.length) (h ++ [.dk []])
def eNewT : EM := fun _ h => .ok (.ref h.length) (h ++ [.dt []])
/-- the pairs of a display, from the left -/
def evPairs : List (EM × EM) → Loc → Hh → R (List (W × W))
  | [], _, h => .ok [] h
  | (k, v) :: r, L, h => (k L h).bind fun x h => (v L h).bind fun y h => (evPairs r L h).bind fun ps h => .ok ((x, y) :: ps) h
/-- {k: v, ..} -/
def eDisp (ps : List (EM × EM)) : EM := fun L h => (evPairs ps L (h ++ [.dk []])).bind fun prs h2 => match h2[h.length]?, prs.mapM (fun p => (keyW p.1).map fun k => (k, p.2)) with
  | some (.dk []), some kvs => if kvs.length ≤ 15 then .ok (.ref h.length) (h2.set h.length (.dk (merge [] kvs))) else .bad
  | _, _ => .bad
end Mi
end

section
/-! SemF: the defs of facts.py as terms of the evaluator (printed by gen.py). -/
namespace Sem
open Mi
/-! is_integer: 0 thing -/
noncomputable def b_is_integer : SM :=
  (sCons (sRet (eAnd (eOp1 (isI "int") (eVar 0)) (eNot (eOp1 (isI "bool") (eVar 0)))))
  sNil)
noncomputable def m_is_integer : Fn := fn 1 1 b_is_integer

/-! unknowns_of: 0 facts, 1 found, 2 i, 3 j, 4 c, 5 unknown -/
noncomputable def l1_unknowns_of : SM :=
  (sCons (sIf (tVal (eOp2 opNotIn (eVar 5) (eVar 1)))
  (sCons (sExpr (eMetL mAppend (eVar 1) (aCons (eVar 5) aNil)))
  sNil)
  sNil)
  sNil)
noncomputable def l0_unknowns_of : SM :=
  (sCons (sFor (iSeq (eTup (aCons (eVar 2) (aCons (eVar 3) aNil)))) (.nm 5)
  l1_unknowns_of)
  sNil)
noncomputable def b_unknowns_of : SM :=
  (sCons (sAsg (.nm 1) (eLst (aCons (eCon (.int 0)) aNil)))
  (sCons (sFor (iSeq (eVar 0)) (.tp [2, 3, 4])
  l0_unknowns_of)
  (sCons (sRet (eVar 1))
  sNil)))
noncomputable def m_unknowns_of : Fn := fn 1 6 b_unknowns_of

/-! relaxed: 0 facts, 1 least, 2 last, 3 smaller, 4 place, 5 i, 6 j, 7 c -/
noncomputable def l0_relaxed : SM :=
  (sCons (sAsg (.tp [5, 6, 7]) (eOp2 opIx (eVar 0) (eVar 4)))
  (sCons (sIf (tAnd (tVal (eOp2 opIn (eVar 6) (eVar 1))) (tOr (tVal (eOp2 opNotIn (eVar 5) (eVar 1))) (tVal (eOp2 opLt (eOp2 opAdd (eOp2 opIx (eVar 1) (eVar 6)) (eVar 7)) (eOp2 opIx (eVar 1) (eVar 5))))))
  (sCons (sSet setIx (eVar 1) (eVar 5) (eOp2 opAdd (eOp2 opIx (eVar 1) (eVar 6)) (eVar 7)))
  (sCons (sSet setIx (eVar 2) (eVar 5) (eVar 4))
  (sCons (sAsg (.nm 3) (eCon (.bool true)))
  sNil)))
  sNil)
  sNil))
noncomputable def b_relaxed : SM :=
  (sCons (sAsg (.nm 3) (eCon (.bool false)))
  (sCons (sFor (iRange1 (eOpN bLen (aCons (eVar 0) aNil))) (.nm 4)
  l0_relaxed)
  (sCons (sRet (eVar 3))
  sNil)))
noncomputable def m_relaxed : Fn := fn 3 8 b_relaxed

/-! walked_round: 0 facts, 1 last, 2 start, 3 met, 4 unknown, 5 first, 6 row -/
noncomputable def l1_walked_round : SM :=
  (sCons (sExpr (eMetL mAppend (eVar 6) (aCons (eOp2 opIx (eVar 1) (eVar 4)) aNil)))
  (sCons (sAsg (.nm 4) (eOp2 opIx (eOp2 opIx (eVar 0) (eOp2 opIx (eVar 1) (eVar 4))) (eCon (.int 1))))
  sNil))
noncomputable def l0_walked_round : SM :=
  (sCons (sExpr (eMetL mAppend (eVar 3) (aCons (eVar 4) aNil)))
  (sCons (sAsg (.nm 4) (eOp2 opIx (eOp2 opIx (eVar 0) (eOp2 opIx (eVar 1) (eVar 4))) (eCon (.int 1))))
  sNil))
noncomputable def b_walked_round : SM :=
  (sCons (sAsg (.nm 3) (eLst aNil))
  (sCons (sAsg (.nm 4) (eVar 2))
  (sCons (sWhile 1000000 (tVal (eOp2 opNotIn (eVar 4) (eVar 3)))
  l0_walked_round)
  (sCons (sAsg (.nm 5) (eVar 4))
  (sCons (sAsg (.nm 6) (eLst aNil))
  (sCons (sWhile 1000000 (tOr (tGc (tVal (eOp2 opEq (eVar 6) (eLst aNil)))) (tVal (eOp2 opNe (eVar 4) (eVar 5))))
  l1_walked_round)
  (sCons (sRet (eOpN bTuple (aCons (eVar 6) aNil)))
  sNil)))))))
noncomputable def m_walked_round : Fn := fn 3 7 b_walked_round

/-! clash: 0 facts, 1 least, 2 unknown, 3 last, 4 turn, 5 probe, 6 more, 7 changed -/
noncomputable def l0_clash : SM :=
  (sCons (sIf (tNot (tVal (eCall m_relaxed (aCons (eVar 0) (aCons (eVar 1) (aCons (eVar 3) aNil))))))
  (sCons (sRet (eCon .non))
  sNil)
  sNil)
  sNil)
noncomputable def b_clash : SM :=
  (sCons (sAsg (.nm 1) (eOpN bDict (aCons (eComp (iSeq (eCall m_unknowns_of (aCons (eVar 0) aNil))) [2] (.nm 2) tYes (eTup (aCons (eVar 2) (aCons (eCon (.int 0)) aNil)))) aNil)))
  (sCons (sAsg (.nm 3) eNewK)
  (sCons (sFor (iRange1 (eOpN bLen (aCons (eVar 1) aNil))) (.nm 4)
  l0_clash)
  (sCons (sAsg (.nm 5) (eOpN bDict (aCons (eVar 1) aNil)))
  (sCons (sAsg (.nm 6) (eOpN bDict (aCons (eVar 3) aNil)))
  (sCons (sExpr (eCall m_relaxed (aCons (eVar 0) (aCons (eVar 5) (aCons (eVar 6) aNil)))))
  (sCons (sAsg (.nm 7) (eComp (iSeq (eOpN bSorted (aCons (eVar 5) aNil))) [2] (.nm 2) (tVal (eOp2 opLt (eOp2 opIx (eVar 5) (eVar 2)) (eOp2 opIx (eVar 1) (eVar 2)))) (eVar 2)))
  (sCons (sRet (eCall m_walked_round (aCons (eVar 0) (aCons (eVar 6) (aCons (eOp2 opIx (eVar 7) (eCon (.int 0))) aNil)))))
  sNil))))))))
noncomputable def m_clash : Fn := fn 1 8 b_clash

/-! sums_to: 0 facts, 1 j, 2 least, 3 last, 4 turns -/
noncomputable def l0_sums_to : SM :=
  (sCons (sAsg (.nm 4) (eOp2 opAdd (eVar 4) (eCon (.int 1))))
  sNil)
noncomputable def b_sums_to : SM :=
  (sCons (sAsg (.nm 2) (eDisp [((eVar 1), (eCon (.int 0)))]))
  (sCons (sAsg (.nm 3) eNewK)
  (sCons (sAsg (.nm 4) (eCon (.int 0)))
  (sCons (sWhile 1000000 (tVal (eCall m_relaxed (aCons (eVar 0) (aCons (eVar 2) (aCons (eVar 3) aNil)))))
  l0_sums_to)
  (sCons (sRet (eTup (aCons (eVar 2) (aCons (eVar 3) aNil))))
  sNil)))))
noncomputable def m_sums_to : Fn := fn 2 5 b_sums_to

/-! chain: 0 facts, 1 fact, 2 i, 3 j, 4 c, 5 found, 6 least, 7 last, 8 row -/
noncomputable def l0_chain : SM :=
  (sCons (sExpr (eMetL mAppend (eVar 8) (aCons (eOp2 opIx (eVar 7) (eVar 2)) aNil)))
  (sCons (sAsg (.nm 2) (eOp2 opIx (eOp2 opIx (eVar 0) (eOp2 opIx (eVar 7) (eVar 2))) (eCon (.int 1))))
  sNil))
noncomputable def b_chain : SM :=
  (sCons (sAsg (.tp [2, 3, 4]) (eVar 1))
  (sCons (sAsg (.nm 5) (eCall m_clash (aCons (eVar 0) aNil)))
  (sCons (sIf (tVal (eOp2 (opIsN true) (eVar 5) (eCon .non)))
  (sCons (sRet (eVar 5))
  sNil)
  sNil)
  (sCons (sAsg (.tp [6, 7]) (eCall m_sums_to (aCons (eVar 0) (aCons (eVar 3) aNil))))
  (sCons (sIf (tOr (tVal (eOp2 opNotIn (eVar 2) (eVar 6))) (tVal (eOp2 opGt (eOp2 opIx (eVar 6) (eVar 2)) (eVar 4))))
  (sCons (sRet (eCon .non))
  sNil)
  sNil)
  (sCons (sAsg (.nm 8) (eLst aNil))
  (sCons (sWhile 1000000 (tVal (eOp2 opNe (eVar 2) (eVar 3)))
  l0_chain)
  (sCons (sRet (eOpN bTuple (aCons (eVar 8) aNil)))
  sNil))))))))
noncomputable def m_chain : Fn := fn 2 9 b_chain

/-! goes_on: 0 facts, 1 row, 2 total, 3 place -/
noncomputable def l0_goes_on : SM :=
  (sCons (sIf (tAnd (tVal (eOp2 opGt (eVar 3) (eCon (.int 0)))) (tVal (eOp2 opNe (eOp2 opIx (eOp2 opIx (eVar 0) (eOp2 opIx (eVar 1) (eOp2 opSub (eVar 3) (eCon (.int 1))))) (eCon (.int 1))) (eOp2 opIx (eOp2 opIx (eVar 0) (eOp2 opIx (eVar 1) (eVar 3))) (eCon (.int 0))))))
  (sCons (sRet (eCon .non))
  sNil)
  sNil)
  (sCons (sAsg (.nm 2) (eOp2 opAdd (eVar 2) (eOp2 opIx (eOp2 opIx (eVar 0) (eOp2 opIx (eVar 1) (eVar 3))) (eCon (.int 2)))))
  sNil))
noncomputable def b_goes_on : SM :=
  (sCons (sAsg (.nm 2) (eCon (.int 0)))
  (sCons (sFor (iRange1 (eOpN bLen (aCons (eVar 1) aNil))) (.nm 3)
  l0_goes_on)
  (sCons (sRet (eVar 2))
  sNil)))
noncomputable def m_goes_on : Fn := fn 2 4 b_goes_on

/-! proves: 0 facts, 1 fact, 2 thing, 3 place, 4 i, 5 j, 6 c, 7 total, 8 first, 9 final -/
noncomputable def l0_proves : SM :=
  (sCons (sIf (tOr (tNot (tVal (eCall m_is_integer (aCons (eVar 3) aNil)))) (tNot (tVal (eChain opLe opLt (eCon (.int 0)) (eVar 3) (eOpN bLen (aCons (eVar 0) aNil))))))
  (sCons (sRet (eCon (.bool false)))
  sNil)
  sNil)
  sNil)
noncomputable def b_proves : SM :=
  (sCons (sIf (tNot (tVal (eOp1 (isI "tuple") (eVar 2))))
  (sCons (sRet (eCon (.bool false)))
  sNil)
  sNil)
  (sCons (sFor (iSeq (eVar 2)) (.nm 3)
  l0_proves)
  (sCons (sAsg (.tp [4, 5, 6]) (eVar 1))
  (sCons (sIf (tVal (eOp2 opEq (eVar 2) (eTup aNil)))
  (sCons (sRet (eAnd (eOp2 opEq (eVar 4) (eVar 5)) (eOp2 opGe (eVar 6) (eCon (.int 0)))))
  sNil)
  sNil)
  (sCons (sAsg (.nm 7) (eCall m_goes_on (aCons (eVar 0) (aCons (eVar 2) aNil))))
  (sCons (sIf (tVal (eOp2 (opIsN false) (eVar 7) (eCon .non)))
  (sCons (sRet (eCon (.bool false)))
  sNil)
  sNil)
  (sCons (sAsg (.nm 8) (eOp2 opIx (eOp2 opIx (eVar 0) (eOp2 opIx (eVar 2) (eCon (.int 0)))) (eCon (.int 0))))
  (sCons (sAsg (.nm 9) (eOp2 opIx (eOp2 opIx (eVar 0) (eOp2 opIx (eVar 2) (eOp1 opNeg (eCon (.int 1))))) (eCon (.int 1))))
  (sCons (sRet (eOr (eAnd (eOp2 opEq (eVar 8) (eVar 4)) (eAnd (eOp2 opEq (eVar 9) (eVar 5)) (eOp2 opLe (eVar 7) (eVar 6)))) (eAnd (eOp2 opEq (eVar 8) (eVar 9)) (eOp2 opLt (eVar 7) (eCon (.int 0))))))
  sNil)))))))))
noncomputable def m_proves : Fn := fn 3 10 b_proves

/-! fulfil: 0 values, 1 facts, 2 fact -/
noncomputable def b_fulfil : SM :=
  (sCons (sRet (eOp2 opEq (eGc (eOpN bLen (aCons (eComp (iSeq (eVar 1)) [2] (.nm 2) (tVal (eOp2 opGt (eOp2 opIx (eVar 0) (eOp2 opIx (eVar 2) (eCon (.int 0)))) (eOp2 opAdd (eOp2 opIx (eVar 0) (eOp2 opIx (eVar 2) (eCon (.int 1)))) (eOp2 opIx (eVar 2) (eCon (.int 2)))))) (eVar 2)) aNil))) (eCon (.int 0))))
  sNil)
noncomputable def m_fulfil : Fn := fn 2 3 b_fulfil

/-! numbers_for: 0 facts, 1 many, 2 least, 3 unknown, 4 last -/
noncomputable def l0_numbers_for : SM :=
  (sCons (sAsg (.nm 4) eNewK)
  sNil)
noncomputable def b_numbers_for : SM :=
  (sCons (sIf (tVal (eOp2 (opIsN true) (eCall m_clash (aCons (eVar 0) aNil)) (eCon .non)))
  (sCons (sRet (eCon .non))
  sNil)
  sNil)
  (sCons (sAsg (.nm 2) (eOpN bDict (aCons (eComp (iRange1 (eVar 1)) [3] (.nm 3) tYes (eTup (aCons (eVar 3) (aCons (eCon (.int 0)) aNil)))) aNil)))
  (sCons (sAsg (.nm 4) eNewK)
  (sCons (sWhile 1000000 (tVal (eCall m_relaxed (aCons (eVar 0) (aCons (eVar 2) (aCons (eVar 4) aNil)))))
  l0_numbers_for)
  (sCons (sRet (eGc (eOpN bTuple (aCons (eComp (iRange1 (eVar 1)) [3] (.nm 3) tYes (eOp2 opSub (eOp2 opIx (eVar 2) (eVar 3)) (eOp2 opIx (eVar 2) (eCon (.int 0))))) aNil))))
  sNil)))))
noncomputable def m_numbers_for : Fn := fn 2 5 b_numbers_for

/-! against: 0 facts, 1 fact, 2 many, 3 i, 4 j, 5 c -/
noncomputable def b_against : SM :=
  (sCons (sAsg (.tp [3, 4, 5]) (eVar 1))
  (sCons (sRet (eCall m_numbers_for (aCons (eOp2 opAdd (eOpN bTuple (aCons (eVar 0) aNil)) (eTup (aCons (eTup (aCons (eVar 4) (aCons (eVar 3) (aCons (eOp2 opSub (eOp2 opSub (eCon (.int 0)) (eVar 5)) (eCon (.int 1))) aNil)))) aNil))) (aCons (eVar 2) aNil))))
  sNil))
noncomputable def m_against : Fn := fn 3 6 b_against

end Sem
end

section
/-! SemD: what each law draws from its script, as terms of the evaluator (printed by gen.py). -/
namespace Sem
open Mi
/-! _law_cell: 0 script, 1 k -/
noncomputable def b__law_cell : SM :=
  (sCons (sIf (tVal (eOp2 opLt (eVar 1) (eOpN bLen (aCons (eVar 0) aNil))))
  (sCons (sRet (eOp2 opIx (eVar 0) (eVar 1)))
  sNil)
  sNil)
  (sCons (sRet (eCon (.int 0)))
  sNil))
noncomputable def m__law_cell : Fn := fn 2 2 b__law_cell

/-! _law_digits: 0 script, 1 first, 2 last, 3 digits, 4 k, 5 cell, 6 turn, 7 seed -/
noncomputable def l1__law_digits : SM :=
  (sCons (sIf (tVal (eOp2 opGt (eVar 5) (eCon (.int 0))))
  (sCons (sExpr (eMetL mAppend (eVar 3) (aCons (eOp2 opMod (eOpN bInt (aCons (eVar 5) aNil)) (eCon (.int 1000))) aNil)))
  (sCons (sAsg (.nm 5) (eOp2 opFloorDiv (eVar 5) (eCon (.int 1000))))
  sNil))
  sNil)
  sNil)
noncomputable def l2__law_digits : SM :=
  (sCons (sAsg (.nm 7) (eOp2 opMod (eOpN bInt (aCons (eOp2 opAdd (eOp2 opAdd (eOp2 opMul (eVar 7) (eCon (.int 16807))) (eOp2 opMul (eCon (.int 7)) (eVar 6))) (eCon (.int 1))) aNil)) (eCon (.int 2147483647))))
  (sCons (sExpr (eMetL mAppend (eVar 3) (aCons (eOp2 opMod (eOpN bInt (aCons (eOp2 opFloorDiv (eVar 7) (eCon (.int 997))) aNil)) (eCon (.int 1000))) aNil)))
  sNil))
noncomputable def l0__law_digits : SM :=
  (sCons (sAsg (.nm 5) (eCall m__law_cell (aCons (eVar 0) (aCons (eVar 4) aNil))))
  (sCons (sIf (tVal (eOp2 opLt (eVar 5) (eCon (.int 0))))
  (sCons (sAsg (.nm 5) (eOp2 opSub (eCon (.int 1)) (eOp2 opMul (eCon (.int 2)) (eVar 5))))
  sNil)
  sNil)
  (sCons (sIf (tVal (eOp2 opGe (eVar 5) (eOp2 opPow (eCon (.int 10)) (eCon (.int 18)))))
  (sCons (sFor (iRange1 (eCon (.int 60))) (.nm 6)
  l1__law_digits)
  sNil)
  (sCons (sAsg (.nm 7) (eOp2 opMod (eOpN bInt (aCons (eOp2 opAdd (eOp2 opAdd (eOp2 opMul (eVar 5) (eCon (.int 48271))) (eOp2 opMul (eVar 4) (eCon (.int 69621)))) (eCon (.int 11))) aNil)) (eCon (.int 2147483647))))
  (sCons (sFor (iRange1 (eCon (.int 12))) (.nm 6)
  l2__law_digits)
  sNil)))
  sNil)))
noncomputable def b__law_digits : SM :=
  (sCons (sAsg (.nm 3) (eLst aNil))
  (sCons (sFor (iRange2 (eVar 1) (eVar 2)) (.nm 4)
  l0__law_digits)
  (sCons (sRet (eVar 3))
  sNil)))
noncomputable def m__law_digits : Fn := fn 3 8 b__law_digits

/-! _law_draw: 0 box, 1 many, 2 at -/
noncomputable def b__law_draw : SM :=
  (sCons (sAsg (.nm 2) (eOp2 opIx (eVar 0) (eCon (.int 1))))
  (sCons (sSet setIx (eVar 0) (eCon (.int 1)) (eOp2 opAdd (eVar 2) (eCon (.int 1))))
  (sCons (sIf (tVal (eOp2 opLt (eVar 2) (eOpN bLen (aCons (eOp2 opIx (eVar 0) (eCon (.int 0))) aNil))))
  (sCons (sRet (eOp2 opMod (eOpN bInt (aCons (eOp2 opIx (eOp2 opIx (eVar 0) (eCon (.int 0))) (eVar 2)) aNil)) (eVar 1)))
  sNil)
  sNil)
  (sCons (sRet (eCon (.int 0)))
  sNil))))
noncomputable def m__law_draw : Fn := fn 2 3 b__law_draw

end Sem
end

section
/-! MiO3: list.index, by values. -/
namespace Mi
open PySem (PyData Str)
def idxOf (ds : List PyData) (d : PyData) : Option Nat := ds.findIdx? fun z => PyData.eqv z d
/-- list.index(x), x there -/
def mIndex : OpN := fun xs M => match xs with
  | [.ref p, y] => (match M[p]?, dataW M dataDeep (.ref p), dataW M dataDeep y with
    | some (.lst _), some (.list ds), some d => if (PyData.list ds).depth ≤ 64 ∧ d.depth ≤ 64 then (idxOf ds d).map fun j => (.int j, M) else none
    | _, _, _ => none)
  | _ => none
def isDct (h : Hh) : W → Bool
  | .ref p => (match h[p]? with
    | some (.dk _) => true
    | some (.dt _) => true
    | _ => false)
  | _ => false
/-- dict.get(k) -/
def opGet1 : Op2 := fun x y M => match x with
  | .ref p => (match M[p]? with
    | some o => (dget o y).map fun r => (r.getD .non, M)
    | none => none)
  | _ => none
def eGet1 (o a : EM) : EM := fun L h => (o L h).bind fun x h => if isDct h x = true then (a L h).bind fun y h => .of (opGet1 x y h) else .bad
end Mi
end

section
/-! MiXO: raise, try by values: plain Lean. -/
namespace Mi
open PySem (PyData Str)
/-- what an expression of an exception makes -/
abbrev XM := Loc → Hh → R Ex
def sRaise (m : XM) : SM := fun L h => (m L h).then L fun x h => .ex x L h
/-- C() -/
def xNew0 (c : Str) : XM := fun _ h => .ok ⟨c, []⟩ h
/-- C(e, ..), C's __init__ stores them under these names -/
def xNew (c : Str) (fs : List Str) (okA : List W → Option (List PyData)) (mr : AM) : XM := fun L h => (mr L h).bind fun ws h => match okA ws with
  | some ds => .ok ⟨c, (fs.zip ds).reverse⟩ h
  | none => .bad
/-- one small int -/
def okA1 : List W → Option (List PyData)
  | [.d (.int i)] => if i.natAbs.log2 < 1920 then some [.int i] else none
  | _ => none
/-- a small int, a text -/
def okA2 : List W → Option (List PyData)
  | [.d (.int i), .d (.str r)] => if i.natAbs.log2 < 1000 ∧ r.length ≤ 1000 then some [.int i, .str r] else none
  | _ => none
/-- try: body, except C as n: a value returned. cm: is an exception of that class caught -/
def sTryR (i : Nat) (cm : Str → Option Bool) (body : SM) (f : Ex → Option PyData) : SM := fun L h => match body L h with
  | .ex x L1 h1 => if L1.length ≤ i then .bad else (match cm x.cls with
    | some true => (match f x with
      | some v => .rt (.d v) h1
      | none => .bad)
    | some false => .ex x L1 h1
    | none => .bad)
  | o => o
end Mi
end

section
/-! MiO4: more operations by values: dict of a tuple of pairs, sorted texts, list.pop(i), repr, walks over a text. -/
namespace Mi
open PySem (PyData Str)
/-- texts in their order -/
def leS (a b : Str) : Bool := !decide (b.cps.toList < a.cps.toList)
def sortS (xs : List Str) : List Str := xs.mergeSort leS
def strK : Key → Option Str
  | .inl _ => none
  | .inr x => some x
/-- sorted(d) of a dict whose keys are texts; else as bSorted -/
def bSorted2 : OpN := fun xs M => match xs with
  | [.ref p] => (match M[p]? with
    | some (.dk kvs) => (match (kvs.map (·.1)).mapM strK with
      | some ks => if ks.length < 64 ∧ ks.all PyData.strOk = true then some (.ref M.length, M ++ [.lst ((sortS ks).map W.str)]) else none
      | none => bSorted xs M)
    | _ => bSorted xs M)
  | _ => bSorted xs M
/-- dict(..) of a tuple of pairs; else as bDict -/
def bDict2 : OpN := fun xs M => match xs with
  | [.ref p] => bDict [.ref p] M
  | [w] => (match w.items with
    | some ws => if ws.length ≤ sizeMax then (ws.mapM pairW).map fun kvs => (.ref M.length, M ++ [.dk (merge [] kvs)]) else none
    | none => none)
  | _ => none
/-- list.pop(i), i there -/
def mPopAt : OpN := fun xs M => match xs with
  | [.ref p, .d (.int i)] => (match M[p]? with
    | some (.lst ws) => if -9223372036854775808 ≤ i ∧ i < 9223372036854775808 then (match ixN ws.length i with
      | some j => (match ws[j]? with
        | some y => some (y, M.set p (.lst (ws.eraseIdx j)))
        | none => none)
      | none => none) else none
    | _ => none)
  | _ => none
/-- a text of small letters -/
def lettersB (x : Str) : Bool := x.cps.toList.all fun c => decide (97 ≤ c) && decide (c ≤ 122)
/-- repr(x): x None, a bool, a number, a short text of small letters -/
def bRepr2 : OpN := fun xs M => match xs with
  | [.d .none] => some (.str (Str.ofString "None"), M)
  | [.d (.bool b)] => some (.str (if b then Str.ofString "True" else Str.ofString "False"), M)
  | [.d (.int i)] => if i.natAbs.log2 < 1920 then some (.str (Str.ofString (toString i)), M) else none
  | [.d (.str x)] => if x.length ≤ 1000 ∧ lettersB x = true then some (.str ⟨(39 :: (x.cps.toList ++ [39])).toArray⟩, M) else none
  | _ => none
end Mi
end

section
/-! SemP: how a program is drawn: defs alike in many laws, as terms of the evaluator (printed by gen.py). -/
namespace Sem
open Mi
/-! _law_pick: 0 box, 1 things -/
noncomputable def b__law_pick : SM :=
  (sCons (sRet (eOp2 opIx (eVar 1) (eOp2 opMod (eOpN bInt (aCons (eCall m__law_draw (aCons (eVar 0) (aCons (eCon (.int 900)) aNil))) aNil)) (eOpN bLen (aCons (eVar 1) aNil)))))
  sNil)
noncomputable def m__law_pick : Fn := fn 2 2 b__law_pick

/-! _law_ints: 0 known, 1 name -/
noncomputable def b__law_ints : SM :=
  (sCons (sRet (eComp (iSeq (eOpN bSorted2 (aCons (eVar 0) aNil))) [1] (.nm 1) (tVal (eOp2 opEq (eOp2 opIx (eVar 0) (eVar 1)) (eCon (.str "int")))) (eVar 1)))
  sNil)
noncomputable def m__law_ints : Fn := fn 1 2 b__law_ints

/-! _law_arrays: 0 known, 1 name -/
noncomputable def b__law_arrays : SM :=
  (sCons (sRet (eComp (iSeq (eOpN bSorted2 (aCons (eVar 0) aNil))) [1] (.nm 1) (tVal (eOp2 opEq (eOp2 opIx (eVar 0) (eVar 1)) (eCon (.str "array")))) (eVar 1)))
  sNil)
noncomputable def m__law_arrays : Fn := fn 1 2 b__law_arrays

/-! _law_term: 0 box, 1 known, 2 kind -/
noncomputable def b__law_term : SM :=
  (sCons (sAsg (.nm 2) (eCall m__law_draw (aCons (eVar 0) (aCons (eCon (.int 5)) aNil))))
  (sCons (sIf (tAnd (tVal (eOp2 opLt (eVar 2) (eCon (.int 3)))) (tGc (tVal (eOp2 opNe (eCall m__law_ints (aCons (eVar 1) aNil)) (eLst aNil)))))
  (sCons (sRet (eTup (aCons (eCon (.str "name")) (aCons (eCall m__law_pick (aCons (eVar 0) (aCons (eCall m__law_ints (aCons (eVar 1) aNil)) aNil))) (aCons (eOp2 opSub (eCall m__law_draw (aCons (eVar 0) (aCons (eCon (.int 3)) aNil))) (eCon (.int 1))) aNil)))))
  sNil)
  sNil)
  (sCons (sIf (tAnd (tVal (eOp2 opEq (eVar 2) (eCon (.int 3)))) (tGc (tVal (eOp2 opNe (eCall m__law_arrays (aCons (eVar 1) aNil)) (eLst aNil)))))
  (sCons (sRet (eTup (aCons (eCon (.str "len")) (aCons (eCall m__law_pick (aCons (eVar 0) (aCons (eCall m__law_arrays (aCons (eVar 1) aNil)) aNil))) (aCons (eOp2 opSub (eCall m__law_draw (aCons (eVar 0) (aCons (eCon (.int 3)) aNil))) (eCon (.int 1))) aNil)))))
  sNil)
  sNil)
  (sCons (sRet (eTup (aCons (eCon (.str "num")) (aCons (eOp2 opSub (eCall m__law_draw (aCons (eVar 0) (aCons (eCon (.int 5)) aNil))) (eCon (.int 2))) aNil))))
  sNil))))
noncomputable def m__law_term : Fn := fn 2 3 b__law_term

/-! _law_condition: 0 box, 1 known, 2 word, 3 one -/
noncomputable def b__law_condition : SM :=
  (sCons (sAsg (.nm 2) (eGc (eOp2 opIx (eLst (aCons (eCon (.str "most")) (aCons (eCon (.str "most")) (aCons (eCon (.str "same")) aNil)))) (eCall m__law_draw (aCons (eVar 0) (aCons (eCon (.int 3)) aNil))))))
  (sCons (sAsg (.nm 3) (eCall m__law_term (aCons (eVar 0) (aCons (eVar 1) aNil))))
  (sCons (sRet (eTup (aCons (eVar 2) (aCons (eVar 3) (aCons (eCall m__law_term (aCons (eVar 0) (aCons (eVar 1) aNil))) aNil)))))
  sNil)))
noncomputable def m__law_condition : Fn := fn 2 4 b__law_condition

/-! _law_args: 0 box, 1 params, 2 known, 3 found, 4 name, 5 kind -/
noncomputable def l0__law_args : SM :=
  (sCons (sIf (tVal (eOp2 opEq (eVar 5) (eCon (.str "int"))))
  (sCons (sAsg (.nm 3) (eOp2 opAdd (eVar 3) (eTup (aCons (eCall m__law_term (aCons (eVar 0) (aCons (eVar 2) aNil))) aNil))))
  sNil)
  (sCons (sIf (tGc (tVal (eOp2 opEq (eCall m__law_arrays (aCons (eVar 2) aNil)) (eLst aNil))))
  (sCons (sRet (eCon .non))
  sNil)
  (sCons (sAsg (.nm 3) (eOp2 opAdd (eVar 3) (eTup (aCons (eTup (aCons (eCon (.str "array")) (aCons (eCall m__law_pick (aCons (eVar 0) (aCons (eCall m__law_arrays (aCons (eVar 2) aNil)) aNil))) aNil))) aNil))))
  sNil))
  sNil))
  sNil)
noncomputable def b__law_args : SM :=
  (sCons (sAsg (.nm 3) (eTup aNil))
  (sCons (sFor (iSeq (eVar 1)) (.tp [4, 5])
  l0__law_args)
  (sCons (sRet (eVar 3))
  sNil)))
noncomputable def m__law_args : Fn := fn 3 6 b__law_args

/-! _law_value: 0 box, 1 heads, 2 known, 3 kind, 4 name, 5 params, 6 args, 7 one -/
noncomputable def b__law_value : SM :=
  (sCons (sAsg (.nm 3) (eCall m__law_draw (aCons (eVar 0) (aCons (eCon (.int 9)) aNil))))
  (sCons (sIf (tAnd (tVal (eOp2 opLt (eVar 3) (eCon (.int 2)))) (tGc (tVal (eOp2 opNe (eCall m__law_arrays (aCons (eVar 2) aNil)) (eLst aNil)))))
  (sCons (sRet (eTup (aCons (eCon (.str "at")) (aCons (eCall m__law_pick (aCons (eVar 0) (aCons (eCall m__law_arrays (aCons (eVar 2) aNil)) aNil))) (aCons (eCall m__law_term (aCons (eVar 0) (aCons (eVar 2) aNil))) aNil)))))
  sNil)
  sNil)
  (sCons (sIf (tVal (eOp2 opLt (eVar 3) (eCon (.int 6))))
  (sCons (sAsg (.tp [4, 5]) (eCall m__law_pick (aCons (eVar 0) (aCons (eVar 1) aNil))))
  (sCons (sAsg (.nm 6) (eCall m__law_args (aCons (eVar 0) (aCons (eVar 5) (aCons (eVar 2) aNil)))))
  (sCons (sIf (tVal (eOp2 (opIsN true) (eVar 6) (eCon .non)))
  (sCons (sRet (eTup (aCons (eCon (.str "call")) (aCons (eVar 4) (aCons (eVar 6) aNil)))))
  sNil)
  sNil)
  sNil)))
  sNil)
  (sCons (sIf (tVal (eOp2 opEq (eVar 3) (eCon (.int 6))))
  (sCons (sRet (eTup (aCons (eCon (.str "any")) aNil)))
  sNil)
  sNil)
  (sCons (sIf (tVal (eOp2 opEq (eVar 3) (eCon (.int 7))))
  (sCons (sAsg (.nm 7) (eCall m__law_term (aCons (eVar 0) (aCons (eVar 2) aNil))))
  (sCons (sRet (eTup (aCons (eCon (.str "middle")) (aCons (eVar 7) (aCons (eCall m__law_term (aCons (eVar 0) (aCons (eVar 2) aNil))) aNil)))))
  sNil))
  sNil)
  (sCons (sRet (eCall m__law_term (aCons (eVar 0) (aCons (eVar 2) aNil))))
  sNil))))))
noncomputable def m__law_value : Fn := fn 3 8 b__law_value

/-! _law_body: 0 box, 1 heads, 2 known, 3 depth, 4 kind, 5 condition, 6 first, 7 array, 8 one, 9 other, 10 value, 11 name, 12 more -/
noncomputable def b__law_body (F : Fn) : SM :=
  (sCons (sAsg (.nm 4) (eCall m__law_draw (aCons (eVar 0) (aCons (eCon (.int 12)) aNil))))
  (sCons (sIf (tOr (tVal (eOp2 opEq (eVar 3) (eCon (.int 0)))) (tVal (eOp2 opLt (eVar 4) (eCon (.int 2)))))
  (sCons (sIf (tVal (eOp2 opEq (eCall m__law_draw (aCons (eVar 0) (aCons (eCon (.int 25)) aNil))) (eCon (.int 1))))
  (sCons (sRet (eTup (aCons (eCon (.str "never")) aNil)))
  sNil)
  sNil)
  (sCons (sRet (eTup (aCons (eCon (.str "give")) (aCons (eCall m__law_term (aCons (eVar 0) (aCons (eVar 2) aNil))) aNil))))
  sNil))
  sNil)
  (sCons (sIf (tVal (eOp2 opLt (eVar 4) (eCon (.int 6))))
  (sCons (sAsg (.nm 5) (eCall m__law_condition (aCons (eVar 0) (aCons (eVar 2) aNil))))
  (sCons (sAsg (.nm 6) (eCall F (aCons (eVar 0) (aCons (eVar 1) (aCons (eVar 2) (aCons (eOp2 opSub (eVar 3) (eCon (.int 1))) aNil))))))
  (sCons (sRet (eTup (aCons (eCon (.str "if")) (aCons (eVar 5) (aCons (eVar 6) (aCons (eCall F (aCons (eVar 0) (aCons (eVar 1) (aCons (eVar 2) (aCons (eOp2 opSub (eVar 3) (eCon (.int 1))) aNil))))) aNil))))))
  sNil)))
  sNil)
  (sCons (sIf (tVal (eOp2 opEq (eVar 4) (eCon (.int 6))))
  (sCons (sAsg (.nm 5) (eCall m__law_condition (aCons (eVar 0) (aCons (eVar 2) aNil))))
  (sCons (sRet (eTup (aCons (eCon (.str "claim")) (aCons (eVar 5) (aCons (eCall F (aCons (eVar 0) (aCons (eVar 1) (aCons (eVar 2) (aCons (eOp2 opSub (eVar 3) (eCon (.int 1))) aNil))))) aNil)))))
  sNil))
  sNil)
  (sCons (sIf (tAnd (tVal (eOp2 opEq (eVar 4) (eCon (.int 7)))) (tGc (tVal (eOp2 opNe (eCall m__law_arrays (aCons (eVar 2) aNil)) (eLst aNil)))))
  (sCons (sAsg (.nm 7) (eCall m__law_pick (aCons (eVar 0) (aCons (eCall m__law_arrays (aCons (eVar 2) aNil)) aNil))))
  (sCons (sAsg (.nm 8) (eCall m__law_term (aCons (eVar 0) (aCons (eVar 2) aNil))))
  (sCons (sAsg (.nm 9) (eCall m__law_term (aCons (eVar 0) (aCons (eVar 2) aNil))))
  (sCons (sRet (eTup (aCons (eCon (.str "put")) (aCons (eVar 7) (aCons (eVar 8) (aCons (eVar 9) (aCons (eCall F (aCons (eVar 0) (aCons (eVar 1) (aCons (eVar 2) (aCons (eOp2 opSub (eVar 3) (eCon (.int 1))) aNil))))) aNil)))))))
  sNil))))
  sNil)
  (sCons (sAsg (.nm 10) (eCall m__law_value (aCons (eVar 0) (aCons (eVar 1) (aCons (eVar 2) aNil)))))
  (sCons (sAsg (.nm 11) (eCall m__law_pick (aCons (eVar 0) (aCons (eLst (aCons (eCon (.str "u")) (aCons (eCon (.str "v")) (aCons (eCon (.str "x")) aNil)))) aNil))))
  (sCons (sAsg (.nm 12) (eOpN bDict2 (aCons (eVar 2) aNil)))
  (sCons (sIf (tVal (eOp2 opEq (eGet1 (eVar 2) (eVar 11)) (eCon (.str "array"))))
  (sCons (sAsg (.nm 11) (eCon (.str "w")))
  sNil)
  sNil)
  (sCons (sSet setIx (eVar 12) (eVar 11) (eCon (.str "int")))
  (sCons (sRet (eTup (aCons (eCon (.str "let")) (aCons (eVar 11) (aCons (eVar 10) (aCons (eCall F (aCons (eVar 0) (aCons (eVar 1) (aCons (eVar 12) (aCons (eOp2 opSub (eVar 3) (eCon (.int 1))) aNil))))) aNil))))))
  sNil)))))))))))
noncomputable def m__law_body : Nat → Fn
  | 0 => fun _ _ => .bad
  | q + 1 => fn 4 13 (b__law_body (m__law_body q))

/-! _law_promises: 0 box, 1 many, 2 found, 3 turn, 4 i, 5 j -/
noncomputable def l0__law_promises : SM :=
  (sCons (sAsg (.nm 4) (eCall m__law_draw (aCons (eVar 0) (aCons (eVar 1) aNil))))
  (sCons (sAsg (.nm 5) (eOp2 opMod (eOpN bInt (aCons (eOp2 opAdd (eOp2 opAdd (eVar 4) (eCon (.int 1))) (eCall m__law_draw (aCons (eVar 0) (aCons (eOp2 opSub (eVar 1) (eCon (.int 1))) aNil)))) aNil)) (eVar 1)))
  (sCons (sExpr (eMetL mAppend (eVar 2) (aCons (eTup (aCons (eVar 4) (aCons (eVar 5) (aCons (eOp2 opSub (eCall m__law_draw (aCons (eVar 0) (aCons (eCon (.int 3)) aNil))) (eCon (.int 1))) aNil)))) aNil)))
  sNil)))
noncomputable def b__law_promises : SM :=
  (sCons (sAsg (.nm 2) (eLst aNil))
  (sCons (sFor (iRange1 (eOp2 opMul (eCall m__law_draw (aCons (eVar 0) (aCons (eCon (.int 3)) aNil))) (eOpN bInt (aCons (eOp2 opGt (eVar 1) (eCon (.int 1))) aNil)))) (.nm 3)
  l0__law_promises)
  (sCons (sRet (eOpN bTuple (aCons (eVar 2) aNil)))
  sNil)))
noncomputable def m__law_promises : Fn := fn 2 6 b__law_promises

/-! _law_drawn: 0 box, 1 depth, 2 heads, 3 name, 4 kinds, 5 names, 6 params, 7 kind, 8 functions, 9 opens -/
noncomputable def l2__law_drawn : SM :=
  (sCons (sIf (tOr (tGc (tVal (eOp2 opEq (eVar 9) (eLst aNil)))) (tVal (eOp2 opEq (eCall m__law_draw (aCons (eVar 0) (aCons (eCon (.int 3)) aNil))) (eCon (.int 0)))))
  (sCons (sExpr (eMetL mAppend (eVar 9) (aCons (eTup (aCons (eVar 3) (aCons (eCall m__law_promises (aCons (eVar 0) (aCons (eOp2 opAdd (eOpN bLen (aCons (eVar 6) aNil)) (eCon (.int 1))) aNil))) aNil))) aNil)))
  sNil)
  sNil)
  sNil)
noncomputable def l1__law_drawn : SM :=
  (sCons (sAsg (.nm 6) (eOp2 opAdd (eVar 6) (eTup (aCons (eTup (aCons (eMetL mPopAt (eOp2 opIx (eVar 5) (eVar 7)) (aCons (eCon (.int 0)) aNil)) (aCons (eVar 7) aNil))) aNil))))
  sNil)
noncomputable def l0__law_drawn : SM :=
  (sCons (sAsg (.nm 4) (eGc (eOp2 opIx (eLst (aCons (eLst (aCons (eCon (.str "int")) aNil)) (aCons (eLst (aCons (eCon (.str "int")) (aCons (eCon (.str "int")) aNil))) (aCons (eLst (aCons (eCon (.str "array")) (aCons (eCon (.str "int")) aNil))) (aCons (eLst (aCons (eCon (.str "array")) aNil)) (aCons (eLst aNil) (aCons (eLst (aCons (eCon (.str "array")) (aCons (eCon (.str "int")) (aCons (eCon (.str "int")) aNil)))) (aCons (eLst (aCons (eCon (.str "array")) (aCons (eCon (.str "array")) (aCons (eCon (.str "int")) aNil)))) aNil)))))))) (eCall m__law_draw (aCons (eVar 0) (aCons (eCon (.int 7)) aNil))))))
  (sCons (sAsg (.nm 5) (eDisp [((eCon (.str "int")), (eLst (aCons (eCon (.str "x")) (aCons (eCon (.str "y")) aNil)))), ((eCon (.str "array")), (eLst (aCons (eCon (.str "a")) (aCons (eCon (.str "b")) aNil))))]))
  (sCons (sAsg (.nm 6) (eTup aNil))
  (sCons (sFor (iSeq (eVar 4)) (.nm 7)
  l1__law_drawn)
  (sCons (sExpr (eMetL mAppend (eVar 2) (aCons (eTup (aCons (eVar 3) (aCons (eVar 6) aNil))) aNil)))
  sNil)))))
noncomputable def b__law_drawn : SM :=
  (sCons (sAsg (.nm 2) (eLst aNil))
  (sCons (sFor (iSeq (eGc (eSl opSl (eLst (aCons (eCon (.str "f")) (aCons (eCon (.str "g")) aNil))) pNone (pSome (eOp2 opAdd (eCon (.int 1)) (eCall m__law_draw (aCons (eVar 0) (aCons (eCon (.int 2)) aNil)))))))) (.nm 3)
  l0__law_drawn)
  (sCons (sAsg (.nm 8) (eGc (eOpN bTuple (aCons (eComp (iSeq (eVar 2)) [3, 6] (.tp [3, 6]) tYes (eTup (aCons (eCon (.str "fun")) (aCons (eVar 3) (aCons (eVar 6) (aCons (eCall (m__law_body 6) (aCons (eVar 0) (aCons (eVar 2) (aCons (eOpN bDict2 (aCons (eVar 6) aNil)) (aCons (eVar 1) aNil))))) aNil)))))) aNil))))
  (sCons (sAsg (.nm 9) (eLst aNil))
  (sCons (sFor (iSeq (eVar 2)) (.tp [3, 6])
  l2__law_drawn)
  (sCons (sRet (eTup (aCons (eCon (.str "program")) (aCons (eVar 8) (aCons (eOpN bTuple (aCons (eVar 9) aNil)) aNil)))))
  sNil))))))
noncomputable def m__law_drawn : Fn := fn 2 10 b__law_drawn

/-! _law_known: 0 box, 1 kind, 2 c, 3 d, 4 more, 5 walk, 6 first, 7 low, 8 high, 9 part, 10 half, 11 seek, 12 params, 13 down, 14 count -/
noncomputable def b__law_known : SM :=
  (sCons (sAsg (.nm 1) (eCall m__law_draw (aCons (eVar 0) (aCons (eCon (.int 3)) aNil))))
  (sCons (sAsg (.nm 2) (eOp2 opSub (eCall m__law_draw (aCons (eVar 0) (aCons (eCon (.int 3)) aNil))) (eCon (.int 1))))
  (sCons (sAsg (.nm 3) (eCall m__law_draw (aCons (eVar 0) (aCons (eCon (.int 2)) aNil))))
  (sCons (sIf (tVal (eOp2 opEq (eVar 1) (eCon (.int 0))))
  (sCons (sAsg (.nm 4) (eTup (aCons (eCon (.str "let")) (aCons (eCon (.str "u")) (aCons (eTup (aCons (eCon (.str "call")) (aCons (eCon (.str "f")) (aCons (eTup (aCons (eTup (aCons (eCon (.str "array")) (aCons (eCon (.str "a")) aNil))) (aCons (eTup (aCons (eCon (.str "name")) (aCons (eCon (.str "x")) (aCons (eCon (.int 1)) aNil)))) aNil))) aNil)))) (aCons (eTup (aCons (eCon (.str "give")) (aCons (eTup (aCons (eCon (.str "name")) (aCons (eCon (.str "u")) (aCons (eCon (.int 0)) aNil)))) aNil))) aNil))))))
  (sCons (sAsg (.nm 5) (eTup (aCons (eCon (.str "if")) (aCons (eTup (aCons (eCon (.str "most")) (aCons (eTup (aCons (eCon (.str "len")) (aCons (eCon (.str "a")) (aCons (eCon (.int 0)) aNil)))) (aCons (eTup (aCons (eCon (.str "name")) (aCons (eCon (.str "x")) (aCons (eVar 2) aNil)))) aNil)))) (aCons (eTup (aCons (eCon (.str "give")) (aCons (eTup (aCons (eCon (.str "name")) (aCons (eCon (.str "x")) (aCons (eCon (.int 0)) aNil)))) aNil))) (aCons (eTup (aCons (eCon (.str "let")) (aCons (eCon (.str "v")) (aCons (eTup (aCons (eCon (.str "at")) (aCons (eCon (.str "a")) (aCons (eTup (aCons (eCon (.str "name")) (aCons (eCon (.str "x")) (aCons (eCon (.int 0)) aNil)))) aNil)))) (aCons (eVar 4) aNil))))) aNil))))))
  (sCons (sAsg (.nm 6) (eTup (aCons (eCon (.str "let")) (aCons (eCon (.str "u")) (aCons (eTup (aCons (eCon (.str "call")) (aCons (eCon (.str "f")) (aCons (eTup (aCons (eTup (aCons (eCon (.str "array")) (aCons (eCon (.str "a")) aNil))) (aCons (eTup (aCons (eCon (.str "num")) (aCons (eVar 3) aNil))) aNil))) aNil)))) (aCons (eTup (aCons (eCon (.str "claim")) (aCons (eTup (aCons (eCon (.str "most")) (aCons (eTup (aCons (eCon (.str "num")) (aCons (eCon (.int 0)) aNil))) (aCons (eTup (aCons (eCon (.str "name")) (aCons (eCon (.str "u")) (aCons (eCon (.int 0)) aNil)))) aNil)))) (aCons (eTup (aCons (eCon (.str "give")) (aCons (eTup (aCons (eCon (.str "name")) (aCons (eCon (.str "u")) (aCons (eCon (.int 0)) aNil)))) aNil))) aNil)))) aNil))))))
  (sCons (sRet (eTup (aCons (eCon (.str "program")) (aCons (eTup (aCons (eTup (aCons (eCon (.str "fun")) (aCons (eCon (.str "f")) (aCons (eTup (aCons (eTup (aCons (eCon (.str "a")) (aCons (eCon (.str "array")) aNil))) (aCons (eTup (aCons (eCon (.str "x")) (aCons (eCon (.str "int")) aNil))) aNil))) (aCons (eVar 5) aNil))))) (aCons (eTup (aCons (eCon (.str "fun")) (aCons (eCon (.str "g")) (aCons (eTup (aCons (eTup (aCons (eCon (.str "a")) (aCons (eCon (.str "array")) aNil))) aNil)) (aCons (eVar 6) aNil))))) aNil))) (aCons (eTup (aCons (eTup (aCons (eCon (.str "g")) (aCons (eTup aNil) aNil))) aNil)) aNil)))))
  sNil))))
  sNil)
  (sCons (sIf (tVal (eOp2 opEq (eVar 1) (eCon (.int 1))))
  (sCons (sAsg (.nm 7) (eTup (aCons (eCon (.str "let")) (aCons (eCon (.str "u")) (aCons (eTup (aCons (eCon (.str "call")) (aCons (eCon (.str "f")) (aCons (eTup (aCons (eTup (aCons (eCon (.str "array")) (aCons (eCon (.str "a")) aNil))) (aCons (eTup (aCons (eCon (.str "name")) (aCons (eCon (.str "m")) (aCons (eCon (.int 1)) aNil)))) (aCons (eTup (aCons (eCon (.str "name")) (aCons (eCon (.str "y")) (aCons (eCon (.int 0)) aNil)))) aNil)))) aNil)))) (aCons (eTup (aCons (eCon (.str "give")) (aCons (eTup (aCons (eCon (.str "name")) (aCons (eCon (.str "u")) (aCons (eCon (.int 0)) aNil)))) aNil))) aNil))))))
  (sCons (sAsg (.nm 8) (eTup (aCons (eCon (.str "let")) (aCons (eCon (.str "u")) (aCons (eTup (aCons (eCon (.str "call")) (aCons (eCon (.str "f")) (aCons (eTup (aCons (eTup (aCons (eCon (.str "array")) (aCons (eCon (.str "a")) aNil))) (aCons (eTup (aCons (eCon (.str "name")) (aCons (eCon (.str "x")) (aCons (eCon (.int 0)) aNil)))) (aCons (eTup (aCons (eCon (.str "name")) (aCons (eCon (.str "m")) (aCons (eOp2 opAdd (eOp2 opSub (eCon (.int 0)) (eCon (.int 1))) (eVar 3)) aNil)))) aNil)))) aNil)))) (aCons (eTup (aCons (eCon (.str "give")) (aCons (eTup (aCons (eCon (.str "name")) (aCons (eCon (.str "u")) (aCons (eCon (.int 0)) aNil)))) aNil))) aNil))))))
  (sCons (sAsg (.nm 9) (eTup (aCons (eCon (.str "if")) (aCons (eTup (aCons (eCon (.str "most")) (aCons (eTup (aCons (eCon (.str "name")) (aCons (eCon (.str "v")) (aCons (eCon (.int 0)) aNil)))) (aCons (eTup (aCons (eCon (.str "num")) (aCons (eCon (.int 0)) aNil))) aNil)))) (aCons (eVar 7) (aCons (eVar 8) aNil))))))
  (sCons (sAsg (.nm 10) (eTup (aCons (eCon (.str "let")) (aCons (eCon (.str "m")) (aCons (eTup (aCons (eCon (.str "middle")) (aCons (eTup (aCons (eCon (.str "name")) (aCons (eCon (.str "x")) (aCons (eCon (.int 0)) aNil)))) (aCons (eTup (aCons (eCon (.str "name")) (aCons (eCon (.str "y")) (aCons (eCon (.int 0)) aNil)))) aNil)))) (aCons (eTup (aCons (eCon (.str "let")) (aCons (eCon (.str "v")) (aCons (eTup (aCons (eCon (.str "at")) (aCons (eCon (.str "a")) (aCons (eTup (aCons (eCon (.str "name")) (aCons (eCon (.str "m")) (aCons (eCon (.int 0)) aNil)))) aNil)))) (aCons (eVar 9) aNil))))) aNil))))))
  (sCons (sAsg (.nm 11) (eTup (aCons (eCon (.str "if")) (aCons (eTup (aCons (eCon (.str "most")) (aCons (eTup (aCons (eCon (.str "name")) (aCons (eCon (.str "x")) (aCons (eCon (.int 0)) aNil)))) (aCons (eTup (aCons (eCon (.str "name")) (aCons (eCon (.str "y")) (aCons (eCon (.int 0)) aNil)))) aNil)))) (aCons (eVar 10) (aCons (eTup (aCons (eCon (.str "give")) (aCons (eTup (aCons (eCon (.str "name")) (aCons (eCon (.str "x")) (aCons (eCon (.int 0)) aNil)))) aNil))) aNil))))))
  (sCons (sAsg (.nm 6) (eTup (aCons (eCon (.str "let")) (aCons (eCon (.str "u")) (aCons (eTup (aCons (eCon (.str "call")) (aCons (eCon (.str "f")) (aCons (eTup (aCons (eTup (aCons (eCon (.str "array")) (aCons (eCon (.str "a")) aNil))) (aCons (eTup (aCons (eCon (.str "num")) (aCons (eCon (.int 0)) aNil))) (aCons (eTup (aCons (eCon (.str "len")) (aCons (eCon (.str "a")) (aCons (eVar 2) aNil)))) aNil)))) aNil)))) (aCons (eTup (aCons (eCon (.str "give")) (aCons (eTup (aCons (eCon (.str "name")) (aCons (eCon (.str "u")) (aCons (eCon (.int 0)) aNil)))) aNil))) aNil))))))
  (sCons (sAsg (.nm 12) (eTup (aCons (eTup (aCons (eCon (.str "a")) (aCons (eCon (.str "array")) aNil))) (aCons (eTup (aCons (eCon (.str "x")) (aCons (eCon (.str "int")) aNil))) (aCons (eTup (aCons (eCon (.str "y")) (aCons (eCon (.str "int")) aNil))) aNil)))))
  (sCons (sRet (eTup (aCons (eCon (.str "program")) (aCons (eTup (aCons (eTup (aCons (eCon (.str "fun")) (aCons (eCon (.str "f")) (aCons (eVar 12) (aCons (eVar 11) aNil))))) (aCons (eTup (aCons (eCon (.str "fun")) (aCons (eCon (.str "g")) (aCons (eTup (aCons (eTup (aCons (eCon (.str "a")) (aCons (eCon (.str "array")) aNil))) aNil)) (aCons (eVar 6) aNil))))) aNil))) (aCons (eTup (aCons (eTup (aCons (eCon (.str "g")) (aCons (eTup aNil) aNil))) aNil)) aNil)))))
  sNil))))))))
  sNil)
  (sCons (sAsg (.nm 13) (eTup (aCons (eCon (.str "let")) (aCons (eCon (.str "u")) (aCons (eTup (aCons (eCon (.str "call")) (aCons (eCon (.str "f")) (aCons (eTup (aCons (eTup (aCons (eCon (.str "name")) (aCons (eCon (.str "x")) (aCons (eOp2 opSub (eCon (.int 0)) (eCon (.int 1))) aNil)))) aNil)) aNil)))) (aCons (eTup (aCons (eCon (.str "give")) (aCons (eTup (aCons (eCon (.str "name")) (aCons (eCon (.str "u")) (aCons (eVar 2) aNil)))) aNil))) aNil))))))
  (sCons (sAsg (.nm 14) (eTup (aCons (eCon (.str "if")) (aCons (eTup (aCons (eCon (.str "same")) (aCons (eTup (aCons (eCon (.str "name")) (aCons (eCon (.str "x")) (aCons (eCon (.int 0)) aNil)))) (aCons (eTup (aCons (eCon (.str "num")) (aCons (eCon (.int 0)) aNil))) aNil)))) (aCons (eTup (aCons (eCon (.str "give")) (aCons (eTup (aCons (eCon (.str "num")) (aCons (eVar 3) aNil))) aNil))) (aCons (eVar 13) aNil))))))
  (sCons (sAsg (.nm 6) (eTup (aCons (eCon (.str "let")) (aCons (eCon (.str "u")) (aCons (eTup (aCons (eCon (.str "call")) (aCons (eCon (.str "f")) (aCons (eTup (aCons (eTup (aCons (eCon (.str "name")) (aCons (eCon (.str "x")) (aCons (eCon (.int 0)) aNil)))) aNil)) aNil)))) (aCons (eTup (aCons (eCon (.str "claim")) (aCons (eTup (aCons (eCon (.str "most")) (aCons (eTup (aCons (eCon (.str "num")) (aCons (eCon (.int 0)) aNil))) (aCons (eTup (aCons (eCon (.str "name")) (aCons (eCon (.str "u")) (aCons (eCon (.int 0)) aNil)))) aNil)))) (aCons (eTup (aCons (eCon (.str "give")) (aCons (eTup (aCons (eCon (.str "name")) (aCons (eCon (.str "u")) (aCons (eCon (.int 0)) aNil)))) aNil))) aNil)))) aNil))))))
  (sCons (sRet (eTup (aCons (eCon (.str "program")) (aCons (eTup (aCons (eTup (aCons (eCon (.str "fun")) (aCons (eCon (.str "f")) (aCons (eTup (aCons (eTup (aCons (eCon (.str "x")) (aCons (eCon (.str "int")) aNil))) aNil)) (aCons (eVar 14) aNil))))) (aCons (eTup (aCons (eCon (.str "fun")) (aCons (eCon (.str "g")) (aCons (eTup (aCons (eTup (aCons (eCon (.str "x")) (aCons (eCon (.str "int")) aNil))) aNil)) (aCons (eVar 6) aNil))))) aNil))) (aCons (eTup (aCons (eTup (aCons (eCon (.str "g")) (aCons (eTup (aCons (eTup (aCons (eCon (.int 0)) (aCons (eCon (.int 1)) (aCons (eCon (.int 0)) aNil)))) aNil)) aNil))) aNil)) aNil)))))
  sNil)))))))))
noncomputable def m__law_known : Fn := fn 1 15 b__law_known

/-! _law_program: 0 box, 1 depth -/
noncomputable def b__law_program : SM :=
  (sCons (sIf (tVal (eOp2 opEq (eCall m__law_draw (aCons (eVar 0) (aCons (eCon (.int 2)) aNil))) (eCon (.int 0))))
  (sCons (sRet (eCall m__law_known (aCons (eVar 0) aNil)))
  sNil)
  sNil)
  (sCons (sRet (eCall m__law_drawn (aCons (eVar 0) (aCons (eVar 1) aNil))))
  sNil))
noncomputable def m__law_program : Fn := fn 2 2 b__law_program

end Sem
end

section
/-! MiE: the evaluator's pieces as equations for simp; loops by invariants; operations on data of known shape. -/
namespace Mi
open PySem (PyData Str)

/-! ### the evaluator's pieces, for simp -/
@[simp] theorem eVar_eq (i : Nat) (L : Loc) (h : Hh) : eVar i L h = (match L[i]? with | some (some w) => .ok w h | _ => .bad) := (rfl)
@[simp] theorem eCon_eq (w : W) (L : Loc) (h : Hh) : eCon w L h = .ok w h := (rfl)
@[simp] theorem aNil_eq (L : Loc) (h : Hh) : aNil L h = .ok [] h := (rfl)
@[simp] theorem aCons_eq (a : EM) (r : AM) (L : Loc) (h : Hh) : aCons a r L h = (a L h).bind fun x h => (r L h).bind fun xs h => .ok (x :: xs) h := (rfl)
@[simp] theorem eOp1_eq (f : Op1) (a : EM) (L : Loc) (h : Hh) : eOp1 f a L h = (a L h).bind fun x h => .of (f x h) := (rfl)
@[simp] theorem eOp2_eq (f : Op2) (a b : EM) (L : Loc) (h : Hh) : eOp2 f a b L h = (a L h).bind fun x h => (b L h).bind fun y h => .of (f x y h) := (rfl)
@[simp] theorem eOpN_eq (f : OpN) (a : AM) (L : Loc) (h : Hh) : eOpN f a L h = (a L h).bind fun xs h => .of (f xs h) := (rfl)
@[simp] theorem eCall_eq (f : Fn) (a : AM) (L : Loc) (h : Hh) : eCall f a L h = (a L h).bind fun xs h => f xs h := (rfl)
@[simp] theorem eIf_eq (t : TM) (a b : EM) (L : Loc) (h : Hh) : eIf t a b L h = (t L h).bind fun c h => if c = true then a L h else b L h := (rfl)
@[simp] theorem asBool_bool (b : Bool) : asBool (.d (.bool b)) = some b := (rfl)
/-- by a truth value -/
def onB {α : Type} (o : Option Bool) (x y z : α) : α := match o with
  | some true => x
  | some false => y
  | none => z
@[simp] theorem onB_some {α : Type} (b : Bool) (x y z : α) : onB (some b) x y z = if b = true then x else y := by cases b <;> rfl
@[simp] theorem onB_none {α : Type} (x y z : α) : onB none x y z = z := (rfl)
@[simp] theorem eAnd_eq (a b : EM) (L : Loc) (h : Hh) : eAnd a b L h = (a L h).bind fun x h => onB (asBool x) (b L h) (.ok (W.bool false) h) .bad := by
  unfold eAnd onB
  congr 1
@[simp] theorem eOr_eq (a b : EM) (L : Loc) (h : Hh) : eOr a b L h = (a L h).bind fun x h => onB (asBool x) (.ok (W.bool true) h) (b L h) .bad := by
  unfold eOr onB
  congr 1
@[simp] theorem eNot_eq (a : EM) (L : Loc) (h : Hh) : eNot a L h = (a L h).bind fun x h => (match asBool x with | some c => .ok (W.bool !c) h | none => .bad) := (rfl)
@[simp] theorem eTup_eq (a : AM) (L : Loc) (h : Hh) : eTup a L h = (a L h).bind fun xs h => if xs.length ≤ sizeMax then .ok (mkTup xs) h else .bad := (rfl)
@[simp] theorem eLst_eq (a : AM) (L : Loc) (h : Hh) : eLst a L h = (a L h).bind fun xs h => if xs.length ≤ sizeMax then .ok (.ref h.length) (h ++ [.lst xs]) else .bad := (rfl)
@[simp] theorem eChain_eq (f g : Op2) (a b c : EM) (L : Loc) (h : Hh) : eChain f g a b c L h = (a L h).bind fun x h => (b L h).bind fun y h => (R.of (f x y h)).bind fun r h => onB (asBool r) ((c L h).bind fun z h => .of (g y z h)) (.ok (W.bool false) h) .bad := by
  unfold eChain onB
  congr 1
@[simp] theorem tVal_eq (a : EM) (L : Loc) (h : Hh) : tVal a L h = (a L h).bind fun x h => (match asBool x with | some b => .ok b h | none => .bad) := (rfl)
@[simp] theorem tAnd_eq (a b : TM) (L : Loc) (h : Hh) : tAnd a b L h = (a L h).bind fun c h => if c = true then b L h else .ok false h := (rfl)
@[simp] theorem tOr_eq (a b : TM) (L : Loc) (h : Hh) : tOr a b L h = (a L h).bind fun c h => if c = true then .ok true h else b L h := (rfl)
@[simp] theorem tNot_eq (a : TM) (L : Loc) (h : Hh) : tNot a L h = (a L h).bind fun c h => .ok (!c) h := (rfl)
@[simp] theorem tYes_eq (L : Loc) (h : Hh) : tYes L h = .ok true h := (rfl)
@[simp] theorem sNil_eq (L : Loc) (h : Hh) : sNil L h = .nx L h := (rfl)
@[simp] theorem sCons_eq (a b : SM) (L : Loc) (h : Hh) : sCons a b L h = (a L h).seq b := (rfl)
@[simp] theorem sExpr_eq (e : EM) (L : Loc) (h : Hh) : sExpr e L h = (e L h).then L fun _ h => .nx L h := (rfl)
@[simp] theorem sRet_eq (e : EM) (L : Loc) (h : Hh) : sRet e L h = (e L h).then L fun w h => .rt w h := (rfl)
@[simp] theorem sIf_eq (t : TM) (a b : SM) (L : Loc) (h : Hh) : sIf t a b L h = (t L h).then L fun c h => if c = true then a L h else b L h := (rfl)
@[simp] theorem sAsg_eq (g : Tg) (e : EM) (L : Loc) (h : Hh) : sAsg g e L h = (e L h).then L fun w h => (match g.put w L with | some L' => .nx L' h | none => .bad) := (rfl)
@[simp] theorem put_nm (i : Nat) (w : W) (L : Loc) : (Tg.nm i).put w L = some (L.set i (some w)) := (rfl)
@[simp] theorem sSet_eq (f : W → W → W → Hh → Option Hh) (o i e : EM) (L : Loc) (h : Hh) : sSet f o i e L h = (e L h).then L fun v h => (o L h).then L fun x h => (i L h).then L fun y h => (match f x y v h with | some h => .nx L h | none => .bad) := (rfl)
@[simp] theorem eMetL_eq (f : OpN) (o : EM) (a : AM) (L : Loc) (h : Hh) : eMetL f o a L h = (o L h).bind fun x h => if isLst h x = true then (a L h).bind fun xs h => .of (f (x :: xs) h) else .bad := (rfl)
@[simp] theorem iSeq_eq (a : EM) (L : Loc) (h : Hh) : iSeq a L h = (a L h).bind fun x h => (match x with
  | .ref a => (match h[a]? with | some (.lst ws) => .ok (.ls a ws) h | _ => .bad)
  | w => (match w.items with | some ws => .ok (.tp ws) h | none => .bad)) := (rfl)
@[simp] theorem iRange1_eq (a : EM) (L : Loc) (h : Hh) : iRange1 a L h = (a L h).bind fun x h => (match x with
  | .d (.int n) => if -4611686018427387904 ≤ n ∧ n < 4611686018427387904 then .ok (.rg 0 n.toNat) h else .bad
  | _ => .bad) := (rfl)
@[simp] theorem sFor_eq (i : IM) (g : Tg) (body : SM) (L : Loc) (h : Hh) : sFor i g body L h = (i L h).then L fun s h => forL s.ok g body s.items L h := (rfl)


@[simp] theorem iRange2_eq (a b : EM) (L : Loc) (h : Hh) : iRange2 a b L h = (a L h).bind fun x h => (b L h).bind fun y h => (match x, y with
  | .d (.int lo), .d (.int hi) => if (-4611686018427387904 ≤ lo ∧ lo < 4611686018427387904) ∧ -4611686018427387904 ≤ hi ∧ hi < 4611686018427387904 then .ok (.rg lo (hi - lo).toNat) h else .bad
  | _, _ => .bad) := (rfl)
@[simp] theorem sRetN_eq (L : Loc) (h : Hh) : sRetN L h = .rt .non h := (rfl)
@[simp] theorem sBreak_eq (L : Loc) (h : Hh) : sBreak L h = .bk L h := (rfl)
@[simp] theorem sCont_eq (L : Loc) (h : Hh) : sCont L h = .ct L h := (rfl)
@[simp] theorem sWhile_eq (n : Nat) (t : TM) (body : SM) (L : Loc) (h : Hh) : sWhile n t body L h = whileL t body n L h := (rfl)
@[simp] theorem eSl_eq (f : OpS) (a : EM) (lo hi : PM) (L : Loc) (h : Hh) : eSl f a lo hi L h = (a L h).bind fun x h => (lo L h).bind fun l h => (hi L h).bind fun u h => .of (f x l u h) := (rfl)
@[simp] theorem pNone_eq (L : Loc) (h : Hh) : pNone L h = .ok none h := (rfl)
@[simp] theorem pSome_eq (e : EM) (L : Loc) (h : Hh) : pSome e L h = (e L h).bind fun x h => (match x with
  | .d (.int i) => .ok (some i) h
  | _ => .bad) := (rfl)
@[simp] theorem eComp_eq (i : IM) (vs : List Nat) (g : Tg) (t : TM) (e : EM) (L : Loc) (h : Hh) : eComp i vs g t e L h = (i L h).bind fun s h =>
  compL s.ok vs g (fun L h => noEx (t L h)) (fun L h => noEx (e L h)) h.length L s.items (h ++ [.lst []]) := (rfl)
@[simp] theorem eNewK_eq (L : Loc) (h : Hh) : eNewK L h = .ok (.ref h.length) (h ++ [.dk []]) := (rfl)
@[simp] theorem eNewT_eq (L : Loc) (h : Hh) : eNewT L h = .ok (.ref h.length) (h ++ [.dt []]) := (rfl)
@[simp] theorem noEx_ok {α : Type} (x : α) (h : Hh) : noEx (.ok x h) = .ok x h := (rfl)
@[simp] theorem put_tp (is : List Nat) (w : W) (L : Loc) : (Tg.tp is).put w L = (match w.items with
    | some ws => setAll is ws L
    | none => none) := (rfl)
@[simp] theorem items_rg (lo : Int) (n : Nat) : (Src.rg lo n).items = rgItems lo n := (rfl)
@[simp] theorem items_tp (ws : List W) : (Src.tp ws).items = ws := (rfl)
@[simp] theorem items_ls (a : Nat) (ws : List W) : (Src.ls a ws).items = ws := (rfl)
@[simp] theorem ok_rg (lo : Int) (n : Nat) (h : Hh) : (Src.rg lo n).ok h = True := (rfl)
@[simp] theorem ok_tp (ws : List W) (h : Hh) : (Src.tp ws).ok h = True := (rfl)
@[simp] theorem ok_ls (a : Nat) (ws : List W) (h : Hh) : (Src.ls a ws).ok h = (h[a]? = some (.lst ws)) := (rfl)
open Classical in
theorem eGc_ok {m : EM} {L : Loc} {h h' : Hh} {w : W} (e : m L h = .ok w h') (hw : w.und h.length = true) (hp : h'.take h.length = h) : eGc m L h = .ok w h := by
  unfold eGc; rw [e]; simp [hw, hp]
open Classical in
theorem tGc_ok {t : TM} {L : Loc} {h h' : Hh} {b : Bool} (e : t L h = .ok b h') (hp : h'.take h.length = h) : tGc t L h = .ok b h := by
  unfold tGc; rw [e]; simp [hp]

theorem gc_len {M M' : Hh} {w : W} (h : M'.length = M.length) : gc M w M' = M' := by
  unfold gc; split
  · rw [← h, List.take_length]
  · rfl
/-! ### loops -/
theorem forL_nil {ok : Hh → Prop} {g : Tg} {body : SM} {L : Loc} {h : Hh} (k : ok h) : forL ok g body [] L h = .nx L h := by simp [forL, k]
theorem forL_cons {ok : Hh → Prop} {g : Tg} {body : SM} {w : W} {ws : List W} {L L1 : Loc} {h : Hh} (k : ok h) (hp : g.put w L = some L1) : forL ok g body (w :: ws) L h = (match body L1 h with
      | .nx L2 h2 => forL ok g body ws L2 h2
      | .ct L2 h2 => forL ok g body ws L2 h2
      | .bk L2 h2 => .nx L2 h2
      | o => o) := by
  rw [forL, if_pos k, hp]
  try rfl
/-- a for loop by what holds behind the first items; it may return -/
theorem forL_pre {α : Type} {ok : Hh → Prop} {g : Tg} {body : SM} {enc : α → W} {xs : List α} (I : List α → Loc → Hh → Prop) (Rt : W → Hh → Prop) (he : ∀ pre L h, I pre L h → ok h)
    (hb : ∀ pre x post L h, xs = pre ++ x :: post → I pre L h → ∃ L1, g.put (enc x) L = some L1 ∧ ((∃ L2 h2, (body L1 h = .nx L2 h2 ∨ body L1 h = .ct L2 h2) ∧ I (pre ++ [x]) L2 h2) ∨ ∃ w h2, body L1 h = .rt w h2 ∧ Rt w h2))
    {L : Loc} {h : Hh} (h0 : I [] L h) : (∃ L2 h2, forL ok g body (xs.map enc) L h = .nx L2 h2 ∧ I xs L2 h2) ∨ ∃ w h2, forL ok g body (xs.map enc) L h = .rt w h2 ∧ Rt w h2 := by
  have go : ∀ (post pre : List α) (L : Loc) (h : Hh), xs = pre ++ post → I pre L h → (∃ L2 h2, forL ok g body (post.map enc) L h = .nx L2 h2 ∧ I xs L2 h2) ∨ ∃ w h2, forL ok g body (post.map enc) L h = .rt w h2 ∧ Rt w h2 := by
    intro post
    induction post with
    | nil => intro pre L h e i; rw [List.append_nil] at e; subst e; exact .inl ⟨L, h, forL_nil (he _ _ _ i), i⟩
    | cons x post ih =>
      intro pre L h e i
      obtain ⟨L1, hp, q⟩ := hb pre x post L h e i
      rw [List.map_cons, forL_cons (he _ _ _ i) hp]
      rcases q with ⟨L2, h2, q, i2⟩ | ⟨w, h2, q, r⟩
      · have e2 : xs = (pre ++ [x]) ++ post := by simp [e]
        rcases q with q | q <;> (rw [q]; exact ih (pre ++ [x]) L2 h2 e2 i2)
      · rw [q]; exact .inr ⟨w, h2, rfl, r⟩
  exact go xs [] L h rfl h0
/-- .. that never returns -/
theorem forL_all {α : Type} {ok : Hh → Prop} {g : Tg} {body : SM} {enc : α → W} {xs : List α} (I : List α → Loc → Hh → Prop) (he : ∀ pre L h, I pre L h → ok h)
    (hb : ∀ pre x post L h, xs = pre ++ x :: post → I pre L h → ∃ L1, g.put (enc x) L = some L1 ∧ ∃ L2 h2, (body L1 h = .nx L2 h2 ∨ body L1 h = .ct L2 h2) ∧ I (pre ++ [x]) L2 h2)
    {L : Loc} {h : Hh} (h0 : I [] L h) : ∃ L2 h2, forL ok g body (xs.map enc) L h = .nx L2 h2 ∧ I xs L2 h2 := by
  rcases forL_pre (ok := ok) (g := g) (body := body) (enc := enc) (xs := xs) I (fun _ _ => False) he (fun pre x post L h e i => let ⟨L1, a, b⟩ := hb pre x post L h e i; ⟨L1, a, .inl b⟩) h0 with q | ⟨_, _, _, q⟩
  · exact q
  · exact q.elim
/-- over range(n), by the number of turns -/
theorem forL_num {ok : Hh → Prop} {g : Tg} {body : SM} {n : Nat} (I : Nat → Loc → Hh → Prop) (he : ∀ i L h, I i L h → ok h)
    (hb : ∀ i L h, i < n → I i L h → ∃ L1, g.put (.int (i : Int)) L = some L1 ∧ ∃ L2 h2, (body L1 h = .nx L2 h2 ∨ body L1 h = .ct L2 h2) ∧ I (i + 1) L2 h2)
    {L : Loc} {h : Hh} (h0 : I 0 L h) : ∃ L2 h2, forL ok g body (rgItems 0 n) L h = .nx L2 h2 ∧ I n L2 h2 := by
  have e : rgItems 0 n = (List.range n).map fun (i : Nat) => W.int (i : Int) := by simp [rgItems]
  rw [e]
  have := forL_all (ok := ok) (g := g) (body := body) (enc := fun (i : Nat) => W.int (i : Int)) (xs := List.range n) (fun pre L h => I pre.length L h) (fun pre => he pre.length) (fun pre x post L h e i => by
    have hx : x = pre.length := by
      have : (List.range n)[pre.length]? = some x := by rw [e]; simp
      have := (List.getElem?_eq_some_iff.mp this)
      obtain ⟨a, b⟩ := this
      simpa using b.symm
    have hn : pre.length < n := by
      have := congrArg List.length e
      simp at this; omega
    subst hx
    simpa using hb pre.length L h hn i) h0
  simpa using this
/-- .. that may return -/
theorem forL_numR {ok : Hh → Prop} {g : Tg} {body : SM} {n : Nat} (I : Nat → Loc → Hh → Prop) (Rt : W → Hh → Prop) (he : ∀ i L h, I i L h → ok h)
    (hb : ∀ i L h, i < n → I i L h → ∃ L1, g.put (.int (i : Int)) L = some L1 ∧ ((∃ L2 h2, (body L1 h = .nx L2 h2 ∨ body L1 h = .ct L2 h2) ∧ I (i + 1) L2 h2) ∨ ∃ w h2, body L1 h = .rt w h2 ∧ Rt w h2))
    {L : Loc} {h : Hh} (h0 : I 0 L h) : (∃ L2 h2, forL ok g body (rgItems 0 n) L h = .nx L2 h2 ∧ I n L2 h2) ∨ ∃ w h2, forL ok g body (rgItems 0 n) L h = .rt w h2 ∧ Rt w h2 := by
  have e : rgItems 0 n = (List.range n).map fun (i : Nat) => W.int (i : Int) := by simp [rgItems]
  rw [e]
  have := forL_pre (ok := ok) (g := g) (body := body) (enc := fun (i : Nat) => W.int (i : Int)) (xs := List.range n) (fun pre L h => I pre.length L h) Rt (fun pre => he pre.length) (fun pre x post L h e i => by
    have hx : x = pre.length := by
      have : (List.range n)[pre.length]? = some x := by rw [e]; simp
      have := (List.getElem?_eq_some_iff.mp this)
      obtain ⟨a, b⟩ := this
      simpa using b.symm
    have hn : pre.length < n := by
      have := congrArg List.length e
      simp at this; omega
    subst hx
    simpa using hb pre.length L h hn i) h0
  simpa using this
theorem whileL_step {t : TM} {body : SM} {n : Nat} {L : Loc} {h : Hh} {b : Bool} {h1 : Hh} (ht : t L h = .ok b h1) : whileL t body (n + 1) L h = if b = true then (match body L h1 with
      | .nx L2 h2 => whileL t body n L2 h2
      | .ct L2 h2 => whileL t body n L2 h2
      | .bk L2 h2 => .nx L2 h2
      | o => o) else .nx L h1 := by
  rw [whileL, ht]; rfl
/-- a while loop by what holds and a measure -/
theorem whileL_inv {t : TM} {body : SM} (I : Loc → Hh → Prop) (En : Loc → Hh → Prop) (μ : Loc → Hh → Nat)
    (hb : ∀ L h, I L h → (∃ h1, t L h = .ok false h1 ∧ En L h1) ∨ ∃ h1 L2 h2, t L h = .ok true h1 ∧ (body L h1 = .nx L2 h2 ∨ body L h1 = .ct L2 h2) ∧ I L2 h2 ∧ μ L2 h2 < μ L h) :
    ∀ (n : Nat) {L : Loc} {h : Hh}, I L h → μ L h < n → ∃ L2 h2, whileL t body n L h = .nx L2 h2 ∧ En L2 h2
  | 0, L, h, i, hm => absurd hm (Nat.not_lt_zero _)
  | n + 1, L, h, i, hm => by
    rcases hb L h i with ⟨h1, e, j⟩ | ⟨h1, L2, h2, e, q, i2, lt⟩
    · exact ⟨L, h1, by rw [whileL_step e]; rfl, j⟩
    · rw [whileL_step e, if_pos rfl]
      rcases q with q | q <;> (rw [q]; exact whileL_inv I En μ hb n i2 (by omega))

/-- .. by a number that falls -/
theorem whileL_nat {t : TM} {body : SM} (I : Nat → Loc → Hh → Prop) (En : Loc → Hh → Prop)
    (hb : ∀ m L h, I m L h → (∃ h1, t L h = .ok false h1 ∧ En L h1) ∨ ∃ h1 L2 h2, t L h = .ok true h1 ∧ (body L h1 = .nx L2 h2 ∨ body L h1 = .ct L2 h2) ∧ ∃ m', m' < m ∧ I m' L2 h2) :
    ∀ (n m : Nat) {L : Loc} {h : Hh}, I m L h → m < n → ∃ L2 h2, whileL t body n L h = .nx L2 h2 ∧ En L2 h2
  | 0, m, L, h, i, hm => absurd hm (Nat.not_lt_zero _)
  | n + 1, m, L, h, i, hm => by
    rcases hb m L h i with ⟨h1, e, j⟩ | ⟨h1, L2, h2, e, q, m', lt, i2⟩
    · exact ⟨L, h1, by rw [whileL_step e]; rfl, j⟩
    · rw [whileL_step e, if_pos rfl]
      rcases q with q | q <;> (rw [q]; exact whileL_nat I En hb n m' i2 (by omega))

/-! ### comprehensions -/
theorem compL_nil {ok : Hh → Prop} {vs : List Nat} {g : Tg} {t : TM} {e : EM} {D : Nat} {L : Loc} {h : Hh} (k : ok h) : compL ok vs g t e D L [] h = .ok (.ref D) h := by simp [compL, k]
/-- a comprehension whose tests and elements change nothing -/
theorem compL_pure {α : Type} {ok : Hh → Prop} {vs : List Nat} {g : Tg} {t : TM} {e : EM} {L : Loc} {h : Hh} {enc : α → W} (p : α → Bool) (f : α → W) : ∀ (xs : List α) (acc : List W),
    (∀ acc : List W, ok (h ++ [.lst acc])) → acc.length + xs.length ≤ sizeMax →
    (∀ x ∈ xs, ∃ L1, g.put (enc x) (wipeL L vs) = some L1 ∧ ∀ acc : List W, t L1 (h ++ [.lst acc]) = .ok (p x) (h ++ [.lst acc]) ∧ (p x = true → e L1 (h ++ [.lst acc]) = .ok (f x) (h ++ [.lst acc]))) →
    compL ok vs g t e h.length L (xs.map enc) (h ++ [.lst acc]) = .ok (.ref h.length) (h ++ [.lst (acc ++ (xs.filter p).map f)])
  | [], acc, hok, hl, hx => by
    simp [compL_nil (hok acc)]
  | x :: xs, acc, hok, hl, hx => by
    obtain ⟨L1, hp, hx1⟩ := hx x List.mem_cons_self
    obtain ⟨ht, he⟩ := hx1 acc
    rw [List.length_cons] at hl
    rw [List.map_cons, compL, if_pos (hok acc), hp]
    simp only [ht, R.bind_ok]
    cases hpx : p x with
    | false =>
      rw [if_neg Bool.false_ne_true, List.filter_cons_of_neg (by simp [hpx])]
      exact compL_pure p f xs acc hok (by omega) fun y hy => hx y (List.mem_cons_of_mem _ hy)
    | true =>
      rw [if_pos rfl, he hpx, List.filter_cons_of_pos hpx]
      have hD : (h ++ [O.lst acc])[h.length]? = some (.lst acc) := by simp
      have hset : (h ++ [O.lst acc]).set h.length (.lst (acc ++ [f x])) = h ++ [.lst (acc ++ [f x])] := by simp
      simp only [R.bind_ok, hD, hset]
      rw [if_pos (by omega)]
      have := compL_pure p f xs (acc ++ [f x]) hok (by rw [List.length_append, List.length_singleton]; omega) fun y hy => hx y (List.mem_cons_of_mem _ hy)
      rw [this]
      simp
theorem eComp_pure {α : Type} {i : IM} {vs : List Nat} {g : Tg} {t : TM} {e : EM} {L : Loc} {h0 h : Hh} {enc : α → W} {s : Src} (p : α → Bool) (f : α → W) (xs : List α) (hi : i L h0 = .ok s h) (hs : s.items = xs.map enc)
    (hok : ∀ acc : List W, s.ok (h ++ [.lst acc])) (hl : xs.length ≤ sizeMax)
    (hx : ∀ x ∈ xs, ∃ L1, g.put (enc x) (wipeL L vs) = some L1 ∧ ∀ acc : List W, t L1 (h ++ [.lst acc]) = .ok (p x) (h ++ [.lst acc]) ∧ (p x = true → e L1 (h ++ [.lst acc]) = .ok (f x) (h ++ [.lst acc]))) :
    eComp i vs g t e L h0 = .ok (.ref h.length) (h ++ [.lst ((xs.filter p).map f)]) := by
  rw [eComp_eq, hi, R.bind_ok, hs]
  have := compL_pure (ok := s.ok) (vs := vs) (g := g) (t := fun L h => noEx (t L h)) (e := fun L h => noEx (e L h)) (L := L) (h := h) (enc := enc) p f xs [] hok (by simpa using hl) (fun x hx' => by
    obtain ⟨L1, a, b⟩ := hx x hx'
    exact ⟨L1, a, fun acc => ⟨by rw [(b acc).1]; rfl, fun q => by rw [(b acc).2 q]; rfl⟩⟩)
  simpa using this

/-! ### subscripts -/
theorem atI_lt {α : Type} {xs : List α} {n : Nat} {x : α} (h : xs[n]? = some x) : atI xs (n : Int) = some x := by
  obtain ⟨hl, he⟩ := List.getElem?_eq_some_iff.mp h
  simp [atI, ixN, hl, he]
theorem opIx_tup {xs : List PyData} {n : Nat} {x : PyData} {M : Hh} (h : xs[n]? = some x) : opIx (.d (.tuple xs)) (.d (.int (n : Int))) M = some (.d x, M) := by
  simp [opIx, atI_lt (xs := xs.map W.d) (n := n) (x := .d x) (by simp [h])]
theorem opIx_rol {xs : List PyData} {n : Nat} {x : PyData} {M : Hh} (h : xs[n]? = some x) : opIx (.d (.list xs)) (.d (.int (n : Int))) M = some (.d x, M) := by
  simp [opIx, atI_lt (xs := xs) (n := n) (x := x) h]
theorem opIx_lst {ws : List W} {a n : Nat} {x : W} {M : Hh} (hm : M[a]? = some (.lst ws)) (h : ws[n]? = some x) : opIx (.ref a) (.d (.int (n : Int))) M = some (x, M) := by
  simp [opIx, hm, atI_lt (xs := ws) (n := n) (x := x) h]
end Mi
end

section
/-! BF: facts i <= j + c; least sums by rounds over the facts; what a round that goes on forever shows. Plain Lean. -/
namespace BF
abbrev Fact := Int × Int × Int
abbrev Mp := Int → Option Int
abbrev Pi := Int → Option Nat
def upd {α : Type} (f : Int → Option α) (k : Int) (v : α) : Int → Option α := fun x => if x = k then some v else f x
theorem upd_same {α : Type} {f : Int → Option α} {k : Int} {v : α} : upd f k v k = some v := by simp [upd]
theorem upd_ne {α : Type} {f : Int → Option α} {k x : Int} {v : α} (h : x ≠ k) : upd f k v x = f x := by simp [upd, h]
/-- whole numbers fulfil a fact -/
def Sat (x : Int → Int) (f : Fact) : Prop := x f.1 ≤ x f.2.1 + f.2.2
/-- a fact looked at -/
def step (fs : List Fact) (s : Mp × Pi × Bool) (p : Nat) : Mp × Pi × Bool :=
  match fs[p]? with
  | none => s
  | some (i, j, c) => match s.1 j with
    | none => s
    | some b => match s.1 i with
      | none => (upd s.1 i (b + c), upd s.2.1 i p, true)
      | some a => if b + c < a then (upd s.1 i (b + c), upd s.2.1 i p, true) else s
def passTo (fs : List Fact) (l : Mp) (q : Pi) (n : Nat) : Mp × Pi × Bool := (List.range n).foldl (step fs) (l, q, false)
def pass (fs : List Fact) (l : Mp) (q : Pi) : Mp × Pi × Bool := passTo fs l q fs.length
theorem passTo_succ (fs : List Fact) (l : Mp) (q : Pi) (n : Nat) : passTo fs l q (n + 1) = step fs (passTo fs l q n) n := by
  simp [passTo, List.range_succ]
/-- what a step does: nothing, or a smaller sum -/
theorem step_cases (fs : List Fact) (s : Mp × Pi × Bool) (p : Nat) :
    (step fs s p = s ∧ ∀ i j c b, fs[p]? = some (i, j, c) → s.1 j = some b → ∃ a, s.1 i = some a ∧ a ≤ b + c) ∨
    ∃ i j c b, fs[p]? = some (i, j, c) ∧ s.1 j = some b ∧ (∀ a, s.1 i = some a → b + c < a) ∧ step fs s p = (upd s.1 i (b + c), upd s.2.1 i p, true) := by
  unfold step
  cases hf : fs[p]? with
  | none => exact .inl ⟨rfl, fun i j c b h => by cases h⟩
  | some f =>
    obtain ⟨i, j, c⟩ := f
    cases hj : s.1 j with
    | none =>
      refine .inl ⟨by simp [hj], fun i' j' c' b h hb => ?_⟩
      cases h; rw [hj] at hb; cases hb
    | some b =>
      cases hi : s.1 i with
      | none => exact .inr ⟨i, j, c, b, rfl, hj, (fun a h => by rw [hi] at h; cases h), by simp [hj, hi]⟩
      | some a =>
        by_cases hlt : b + c < a
        · exact .inr ⟨i, j, c, b, rfl, hj, (fun a' h => by rw [hi] at h; cases h; exact hlt), by simp [hj, hi, hlt]⟩
        · refine .inl ⟨by simp [hj, hi, hlt], fun i' j' c' b' h hb => ?_⟩
          cases h; rw [hj] at hb; cases hb
          exact ⟨a, hi, by omega⟩
/-- what holds of each state, if updates keep it -/
theorem passTo_inv {fs : List Fact} (P : Mp → Pi → Prop) (hu : ∀ l q p i j c b, fs[p]? = some (i, j, c) → l j = some b → (∀ a, l i = some a → b + c < a) → P l q → P (upd l i (b + c)) (upd q i p))
    {l : Mp} {q : Pi} (h : P l q) : ∀ n, P (passTo fs l q n).1 (passTo fs l q n).2.1
  | 0 => h
  | n + 1 => by
    rw [passTo_succ]
    rcases step_cases fs (passTo fs l q n) n with ⟨e, _⟩ | ⟨i, j, c, b, h1, h2, h3, e⟩
    · rw [e]; exact passTo_inv P hu h n
    · rw [e]; exact hu _ _ _ _ _ _ _ h1 h2 h3 (passTo_inv P hu h n)
theorem pass_inv {fs : List Fact} (P : Mp → Pi → Prop) (hu : ∀ l q p i j c b, fs[p]? = some (i, j, c) → l j = some b → (∀ a, l i = some a → b + c < a) → P l q → P (upd l i (b + c)) (upd q i p))
    {l : Mp} {q : Pi} (h : P l q) : P (pass fs l q).1 (pass fs l q).2.1 := passTo_inv P hu h _
/-- sums only become smaller -/
def Le (l l' : Mp) : Prop := ∀ u a, l u = some a → ∃ a', l' u = some a' ∧ a' ≤ a
theorem Le.refl (l : Mp) : Le l l := fun _ a h => ⟨a, h, Int.le_refl _⟩
theorem Le.trans {a b c : Mp} (x : Le a b) (y : Le b c) : Le a c := fun u z h => by
  obtain ⟨z1, h1, e1⟩ := x u z h
  obtain ⟨z2, h2, e2⟩ := y u z1 h1
  exact ⟨z2, h2, by omega⟩
theorem step_le (fs : List Fact) (s : Mp × Pi × Bool) (p : Nat) : Le s.1 (step fs s p).1 := by
  rcases step_cases fs s p with ⟨e, _⟩ | ⟨i, j, c, b, h1, h2, h3, e⟩
  · rw [e]; exact .refl _
  · rw [e]
    intro u a h
    by_cases hu : u = i
    · subst hu; exact ⟨_, upd_same, Int.le_of_lt (h3 a h)⟩
    · exact ⟨a, by show upd s.1 i (b + c) u = some a; rw [upd_ne hu]; exact h, Int.le_refl _⟩
theorem passTo_le (fs : List Fact) (l : Mp) (q : Pi) : ∀ (m n : Nat), m ≤ n → Le (passTo fs l q m).1 (passTo fs l q n).1
  | m, 0, h => by
    have : m = 0 := by omega
    subst this; exact .refl _
  | m, n + 1, h => by
    by_cases e : m = n + 1
    · subst e; exact .refl _
    · rw [passTo_succ]
      exact (passTo_le fs l q m n (by omega)).trans (step_le fs _ n)
/-- behind a pass each fact was looked at -/
theorem pass_fact {fs : List Fact} {l : Mp} {q : Pi} {p : Nat} {i j c b : Int} (hf : fs[p]? = some (i, j, c)) (hb : l j = some b) : ∃ a, (pass fs l q).1 i = some a ∧ a ≤ b + c := by
  have hp : p < fs.length := (List.getElem?_eq_some_iff.mp hf).1
  obtain ⟨b1, hb1, e1⟩ := passTo_le fs l q 0 p (Nat.zero_le _) j b hb
  have mid : ∃ a, (passTo fs l q (p + 1)).1 i = some a ∧ a ≤ b1 + c := by
    rw [passTo_succ]
    rcases step_cases fs (passTo fs l q p) p with ⟨e, h⟩ | ⟨i', j', c', b', h1, h2, h3, e⟩
    · rw [e]; exact h i j c b1 hf hb1
    · rw [hf] at h1; cases h1
      rw [hb1] at h2; cases h2
      rw [e]; exact ⟨_, upd_same, Int.le_refl _⟩
  obtain ⟨a, ha, e2⟩ := mid
  obtain ⟨a', ha', e3⟩ := passTo_le fs l q (p + 1) fs.length (by omega) i a ha
  exact ⟨a', ha', by omega⟩
/-- a pass that changes nothing -/
theorem passTo_false {fs : List Fact} {l : Mp} {q : Pi} : ∀ {n : Nat}, (passTo fs l q n).2.2 = false → passTo fs l q n = (l, q, false)
  | 0, _ => rfl
  | n + 1, h => by
    rw [passTo_succ] at h ⊢
    rcases step_cases fs (passTo fs l q n) n with ⟨e, _⟩ | ⟨i, j, c, b, h1, h2, h3, e⟩
    · rw [e] at h ⊢; exact passTo_false h
    · rw [e] at h; cases h
theorem pass_stable {fs : List Fact} {l : Mp} {q : Pi} (h : (pass fs l q).2.2 = false) {p : Nat} {i j c b : Int} (hf : fs[p]? = some (i, j, c)) (hb : l j = some b) : ∃ a, l i = some a ∧ a ≤ b + c := by
  have e := passTo_false h
  obtain ⟨a, ha, hl⟩ := pass_fact (q := q) hf hb
  have e' : (pass fs l q).1 = l := congrArg (·.1) e
  rw [e'] at ha
  exact ⟨a, ha, hl⟩
/-- a pass that changes something: somewhere a sum becomes smaller -/
theorem passTo_true {fs : List Fact} {l : Mp} {q : Pi} : ∀ {n : Nat}, (passTo fs l q n).2.2 = true → ∃ m, m < n ∧ ∃ i j c b, fs[m]? = some (i, j, c) ∧ (passTo fs l q m).1 j = some b ∧ (∀ a, (passTo fs l q m).1 i = some a → b + c < a)
  | 0, h => by cases h
  | n + 1, h => by
    rw [passTo_succ] at h
    rcases step_cases fs (passTo fs l q n) n with ⟨e, _⟩ | ⟨i, j, c, b, h1, h2, h3, e⟩
    · rw [e] at h
      obtain ⟨m, hm, z⟩ := passTo_true h
      exact ⟨m, by omega, z⟩
    · exact ⟨n, by omega, i, j, c, b, h1, h2, h3⟩

/-! ### walks -/
inductive Walk (fs : List Fact) : Int → Int → List Nat → Int → Prop where
  | nil (u : Int) : Walk fs u u [] 0
  | cons {u w v c s : Int} {p : Nat} {ps : List Nat} : fs[p]? = some (u, w, c) → Walk fs w v ps s → Walk fs u v (p :: ps) (c + s)
theorem Walk.sat {fs : List Fact} {x : Int → Int} (hx : ∀ f ∈ fs, Sat x f) {u v s : Int} {ps : List Nat} (h : Walk fs u v ps s) : x u ≤ x v + s := by
  induction h with
  | nil => omega
  | cons hf _ ih =>
    have := hx _ (List.mem_of_getElem? hf)
    unfold Sat at this
    simp only at this
    omega
theorem Walk.append {fs : List Fact} {u v w s t : Int} {ps qs : List Nat} (h : Walk fs u v ps s) (k : Walk fs v w qs t) : Walk fs u w (ps ++ qs) (s + t) := by
  induction h with
  | nil => simpa using k
  | cons hf _ ih => rw [Int.add_assoc]; exact .cons hf (ih k)
/-- rounds -/
def rounds (fs : List Fact) : Nat → Mp × Pi → Mp × Pi
  | 0, s => s
  | n + 1, s => let t := rounds fs n s; ((pass fs t.1 t.2).1, (pass fs t.1 t.2).2.1)
theorem rounds_walk {fs : List Fact} {l : Mp} {q : Pi} {v b : Int} (hb : l v = some b) : ∀ (n : Nat) {u s : Int} {ps : List Nat}, Walk fs u v ps s → ps.length ≤ n → ∃ a, (rounds fs n (l, q)).1 u = some a ∧ a ≤ s + b
  | 0, u, s, ps, h, hl => by
    cases h with
    | nil => exact ⟨b, hb, by omega⟩
    | cons _ _ => simp at hl
  | n + 1, u, s, ps, h, hl => by
    cases h with
    | nil =>
      obtain ⟨a, ha, e⟩ := rounds_walk hb n (.nil v) (Nat.zero_le _)
      obtain ⟨a', ha', e'⟩ := passTo_le fs (rounds fs n (l, q)).1 (rounds fs n (l, q)).2 0 fs.length (Nat.zero_le _) v a ha
      exact ⟨a', ha', by omega⟩
    | cons hf hw =>
      obtain ⟨a, ha, e⟩ := rounds_walk hb n hw (by simpa using hl)
      obtain ⟨a', ha', e'⟩ := pass_fact (q := (rounds fs n (l, q)).2) hf ha
      exact ⟨a', ha', by omega⟩
theorem rounds_inv {fs : List Fact} (P : Mp → Pi → Prop) (hu : ∀ l q p i j c b, fs[p]? = some (i, j, c) → l j = some b → (∀ a, l i = some a → b + c < a) → P l q → P (upd l i (b + c)) (upd q i p))
    {s : Mp × Pi} (h : P s.1 s.2) : ∀ n, P (rounds fs n s).1 (rounds fs n s).2
  | 0 => h
  | n + 1 => pass_inv P hu (rounds_inv P hu h n)

/-! ### the way back -/
/-- along the last facts -/
inductive Back (fs : List Fact) (q : Pi) : Int → Int → List Nat → Int → Prop where
  | nil (u : Int) : Back fs q u u [] 0
  | cons {u w v c s : Int} {p : Nat} {ps : List Nat} : q u = some p → fs[p]? = some (u, w, c) → Back fs q w v ps s → Back fs q u v (p :: ps) (c + s)
theorem Back.walk {fs : List Fact} {q : Pi} {u v s : Int} {ps : List Nat} (h : Back fs q u v ps s) : Walk fs u v ps s := by
  induction h with
  | nil => exact .nil _
  | cons _ hf _ ih => exact .cons hf ih
theorem Back.append {fs : List Fact} {q : Pi} {u v w s t : Int} {ps qs : List Nat} (h : Back fs q u v ps s) (k : Back fs q v w qs t) : Back fs q u w (ps ++ qs) (s + t) := by
  induction h with
  | nil => simpa using k
  | cons hq hf _ ih => rw [Int.add_assoc]; exact .cons hq hf (ih k)
/-- each last fact: its sum was right when it came -/
def InvA (fs : List Fact) (l : Mp) (q : Pi) : Prop := ∀ u p, q u = some p → ∃ w c a b, fs[p]? = some (u, w, c) ∧ l u = some a ∧ l w = some b ∧ b + c ≤ a
/-- each way back to where it began has a sum below 0 -/
def InvN (fs : List Fact) (q : Pi) : Prop := ∀ u ps s, Back fs q u u ps s → ps ≠ [] → s < 0
theorem invA_upd {fs : List Fact} {l : Mp} {q : Pi} {p : Nat} {i j c b : Int} (hf : fs[p]? = some (i, j, c)) (hj : l j = some b) (hi : ∀ a, l i = some a → b + c < a) (h : InvA fs l q) : InvA fs (upd l i (b + c)) (upd q i p) := by
  intro u p' hq
  by_cases hu : u = i
  · subst hu
    rw [upd_same] at hq; cases hq
    by_cases hji : j = u
    · subst hji
      have := hi b hj
      exact ⟨j, c, b + c, b + c, hf, upd_same, upd_same, by omega⟩
    · exact ⟨j, c, b + c, b, hf, upd_same, by rw [upd_ne hji]; exact hj, Int.le_refl _⟩
  · rw [upd_ne hu] at hq
    obtain ⟨w, c', a, b', h1, h2, h3, h4⟩ := h u p' hq
    by_cases hw : w = i
    · subst hw
      have := hi b' h3
      exact ⟨w, c', a, b + c, h1, by rw [upd_ne hu]; exact h2, upd_same, by omega⟩
    · exact ⟨w, c', a, b', h1, by rw [upd_ne hu]; exact h2, by rw [upd_ne hw]; exact h3, h4⟩
theorem back_le {fs : List Fact} {l : Mp} {q : Pi} (h : InvA fs l q) {u v s : Int} {ps : List Nat} (k : Back fs q u v ps s) : ∀ {b : Int}, l v = some b → ∃ a, l u = some a ∧ b + s ≤ a := by
  induction k with
  | nil => intro b hb; exact ⟨b, hb, by omega⟩
  | cons hq hf _ ih =>
    intro b hb
    obtain ⟨a1, h1, e1⟩ := ih hb
    obtain ⟨w, c, a, b', h2, h3, h4, h5⟩ := h _ _ hq
    rw [hf] at h2; cases h2
    rw [h1] at h4; cases h4
    exact ⟨a, h3, by omega⟩
/-- a way back ends where a sum stands -/
theorem back_end {fs : List Fact} {l : Mp} {q : Pi} (h : InvA fs l q) {u v s : Int} {ps : List Nat} (k : Back fs q u v ps s) (hp : ps ≠ []) : ∃ b, l v = some b := by
  induction k with
  | nil => exact (hp rfl).elim
  | @cons u w v c s p ps hq hf k ih =>
    obtain ⟨w', c', a, b', h2, h3, h4, h5⟩ := h _ _ hq
    rw [hf] at h2; cases h2
    cases k with
    | nil => exact ⟨b', h4⟩
    | cons _ _ _ => exact ih (by simp)
/-- a way along the new last facts: an old one, or first an old one to i, then the new fact -/
theorem back_split {fs : List Fact} {q : Pi} {p : Nat} {i j c : Int} (hf : fs[p]? = some (i, j, c)) {u v s : Int} {ps : List Nat} (k : Back fs (upd q i p) u v ps s) :
    Back fs q u v ps s ∨ ∃ ps1 s1 ps2 s2, Back fs q u i ps1 s1 ∧ Back fs (upd q i p) u i ps1 s1 ∧ Back fs (upd q i p) j v ps2 s2 ∧ ps = ps1 ++ p :: ps2 ∧ s = s1 + (c + s2) := by
  induction k with
  | nil => exact .inl (.nil _)
  | @cons u w v c' s p' ps hq hf' k ih =>
    by_cases hu : u = i
    · subst hu
      rw [upd_same] at hq; cases hq
      rw [hf] at hf'; cases hf'
      exact .inr ⟨[], 0, ps, s, .nil _, .nil _, k, rfl, by omega⟩
    · have hq' := hq
      rw [upd_ne hu] at hq
      rcases ih with ih | ⟨ps1, s1, ps2, s2, h1, h1', h2, rfl, rfl⟩
      · exact .inl (.cons hq hf' ih)
      · exact .inr ⟨p' :: ps1, c' + s1, ps2, s2, .cons hq hf' h1, .cons hq' hf' h1', h2, rfl, by omega⟩
theorem invN_upd {fs : List Fact} {l : Mp} {q : Pi} {p : Nat} {i j c b : Int} (hf : fs[p]? = some (i, j, c)) (hj : l j = some b) (hi : ∀ a, l i = some a → b + c < a) (hA : InvA fs l q) (h : InvN fs q) : InvN fs (upd q i p) := by
  -- from j to i along old facts
  have old : ∀ ps t, Back fs q j i ps t → c + t < 0 := fun ps t k => by
    by_cases hp : ps = []
    · subst hp
      cases k
      have := hi b hj
      omega
    · obtain ⟨a, ha⟩ := back_end hA k hp
      obtain ⟨b', hb', e⟩ := back_le hA k ha
      rw [hj] at hb'; cases hb'
      have := hi a ha
      omega
  -- from j to i along new facts
  have new : ∀ (n : Nat) ps t, ps.length ≤ n → Back fs (upd q i p) j i ps t → c + t < 0 := by
    intro n
    induction n with
    | zero =>
      intro ps t hl k
      cases k with
      | nil => exact old [] 0 (.nil _)
      | cons _ _ _ => simp at hl
    | succ n ih =>
      intro ps t hl k
      rcases back_split hf k with k | ⟨ps1, s1, ps2, s2, h1, _, h2, rfl, rfl⟩
      · exact old _ _ k
      · have e1 := old _ _ h1
        have e2 := ih ps2 s2 (by simp at hl; omega) h2
        omega
  intro u ps s k hp
  rcases back_split hf k with k | ⟨ps1, s1, ps2, s2, h1, h1', h2, rfl, rfl⟩
  · exact h u ps s k hp
  · have := new _ _ _ (Nat.le_refl _) (h2.append h1')
    omega
end BF
end

section
/-! BF2: rounds that end, and rounds that don't. -/
namespace BF
/-! ### no more names than there are -/
theorem erase_len {α : Type} [DecidableEq α] {x : α} : ∀ {l : List α}, x ∈ l → (l.erase x).length + 1 = l.length
  | y :: l, h => by
    rw [List.erase_cons]
    by_cases e : y = x
    · simp [e]
    · have : x ∈ l := by
        rcases List.mem_cons.mp h with h | h
        · exact (e h.symm).elim
        · exact h
      simp [e, erase_len this]
theorem nodup_le {α : Type} [DecidableEq α] : ∀ {xs U : List α}, xs.Nodup → (∀ x ∈ xs, x ∈ U) → xs.length ≤ U.length
  | [], _, _, _ => Nat.zero_le _
  | x :: xs, U, hn, hs => by
    obtain ⟨h1, h2⟩ := List.nodup_cons.mp hn
    have := erase_len (hs x List.mem_cons_self)
    have ih := nodup_le (U := U.erase x) h2 (fun y hy => by
      have ne : y ≠ x := fun e => h1 (e ▸ hy)
      exact (List.mem_erase_of_ne ne).mpr (hs y (List.mem_cons_of_mem _ hy)))
    rw [List.length_cons]; omega
/-- a row with a name twice -/
theorem twice {α : Type} [DecidableEq α] : ∀ {xs : List α}, ¬ xs.Nodup → ∃ a y b c, xs = a ++ y :: b ++ y :: c
  | [], h => (h List.nodup_nil).elim
  | x :: xs, h => by
    by_cases hx : x ∈ xs
    · obtain ⟨b, c, e⟩ := List.append_of_mem hx
      exact ⟨[], x, b, c, by simp [e]⟩
    · have : ¬ xs.Nodup := fun z => h (List.nodup_cons.mpr ⟨hx, z⟩)
      obtain ⟨a, y, b, c, e⟩ := twice this
      exact ⟨x :: a, y, b, c, by simp [e]⟩
/-- a walk with the names that it leaves -/
inductive WalkN (fs : List Fact) : Int → Int → List Nat → List Int → Int → Prop where
  | nil (u : Int) : WalkN fs u u [] [] 0
  | cons {u w v c s : Int} {p : Nat} {ps : List Nat} {ns : List Int} : fs[p]? = some (u, w, c) → WalkN fs w v ps ns s → WalkN fs u v (p :: ps) (u :: ns) (c + s)
theorem Walk.named {fs : List Fact} {u v s : Int} {ps : List Nat} (h : Walk fs u v ps s) : ∃ ns, WalkN fs u v ps ns s := by
  induction h with
  | nil => exact ⟨[], .nil _⟩
  | cons hf _ ih => obtain ⟨ns, h⟩ := ih; exact ⟨_, .cons hf h⟩
theorem WalkN.walk {fs : List Fact} {u v s : Int} {ps : List Nat} {ns : List Int} (h : WalkN fs u v ps ns s) : Walk fs u v ps s := by
  induction h with
  | nil => exact .nil _
  | cons hf _ ih => exact .cons hf ih
theorem WalkN.len {fs : List Fact} {u v s : Int} {ps : List Nat} {ns : List Int} (h : WalkN fs u v ps ns s) : ns.length = ps.length := by
  induction h with
  | nil => rfl
  | cons hf _ ih => simp [ih]
theorem WalkN.split {fs : List Fact} : ∀ {a b : List Int} {u v s : Int} {ps : List Nat} {y : Int}, WalkN fs u v ps (a ++ y :: b) s → ∃ ps1 s1 ps2 s2, WalkN fs u y ps1 a s1 ∧ WalkN fs y v ps2 (y :: b) s2 ∧ ps = ps1 ++ ps2 ∧ s = s1 + s2
  | [], b, u, v, s, ps, y, h => by
    cases h with
    | cons hf k => exact ⟨[], 0, _, _, .nil _, .cons hf k, rfl, by omega⟩
  | x :: a, b, u, v, s, ps, y, h => by
    cases h with
    | cons hf k =>
      obtain ⟨ps1, s1, ps2, s2, h1, h2, rfl, rfl⟩ := WalkN.split k
      exact ⟨_ :: ps1, _, ps2, s2, .cons hf h1, h2, rfl, by omega⟩
/-- the names of the facts -/
def Names (fs : List Fact) (U : List Int) : Prop := ∀ f ∈ fs, f.1 ∈ U ∧ f.2.1 ∈ U
theorem WalkN.mem {fs : List Fact} {U : List Int} (hU : Names fs U) {u v s : Int} {ps : List Nat} {ns : List Int} (h : WalkN fs u v ps ns s) : ∀ x ∈ ns, x ∈ U := by
  induction h with
  | nil => intro x hx; cases hx
  | cons hf _ ih =>
    intro x hx
    rcases List.mem_cons.mp hx with rfl | hx
    · exact (hU _ (List.mem_of_getElem? hf)).1
    · exact ih x hx
/-- the facts have whole numbers -/
def Feas (fs : List Fact) : Prop := ∃ x : Int → Int, ∀ f ∈ fs, Sat x f
theorem Feas.cycle {fs : List Fact} (h : Feas fs) {u s : Int} {ps : List Nat} (k : Walk fs u u ps s) : 0 ≤ s := by
  obtain ⟨x, hx⟩ := h
  have := k.sat hx
  omega
theorem walkN_end {fs : List Fact} {U : List Int} (hU : Names fs U) {u v s : Int} {ps : List Nat} {ns : List Int} (h : WalkN fs u v ps ns s) : u ∈ U → v ∈ U := by
  induction h with
  | nil => exact id
  | cons hf _ ih => exact fun _ => ih (hU _ (List.mem_of_getElem? hf)).2
/-- where the facts have numbers, a walk has a short one that is no worse -/
theorem shorten {fs : List Fact} {U : List Int} (hU : Names fs U) (hF : Feas fs) : ∀ (n : Nat) {u v s : Int} {ps : List Nat}, ps.length ≤ n → u ∈ U → Walk fs u v ps s → ∃ ps' s', Walk fs u v ps' s' ∧ s' ≤ s ∧ ps'.length < U.length
  | 0, u, v, s, ps, hl, hu, h => ⟨ps, s, h, Int.le_refl _, by have := List.length_pos_of_mem hu; omega⟩
  | n + 1, u, v, s, ps, hl, hu, h => by
    by_cases hle : ps.length < U.length
    · exact ⟨ps, s, h, Int.le_refl _, hle⟩
    · obtain ⟨ns, hn⟩ := h.named
      by_cases hv : v ∈ ns
      · obtain ⟨a, b, rfl⟩ := List.append_of_mem hv
        obtain ⟨ps1, s1, ps2, s2, h1, h2, rfl, rfl⟩ := hn.split
        have hc := hF.cycle h2.walk
        have l2 : ps2.length = b.length + 1 := by rw [← h2.len]; simp
        obtain ⟨ps', s', k1, k2, k3⟩ := shorten hU hF n (by simp at hl ⊢; omega) hu h1.walk
        exact ⟨ps', s', k1, by omega, k3⟩
      · have : ¬ ns.Nodup := fun nd => by
          have nd2 : (v :: ns).Nodup := List.nodup_cons.mpr ⟨hv, nd⟩
          have := nodup_le nd2 (U := U) (fun x hx => by
            rcases List.mem_cons.mp hx with rfl | hx
            · exact walkN_end hU hn hu
            · exact hn.mem hU x hx)
          rw [List.length_cons, hn.len] at this; omega
        obtain ⟨a, y, b, c, e⟩ := twice this
        subst e
        obtain ⟨ps1, s1, ps2, s2, h1, h2, rfl, rfl⟩ := WalkN.split (a := a) (b := b ++ y :: c) (by simpa using hn)
        obtain ⟨ps3, s3, ps4, s4, h3, h4, rfl, rfl⟩ := WalkN.split (a := y :: b) (b := c) h2
        have hc := hF.cycle h3.walk
        have l3 : ps3.length = b.length + 1 := by rw [← h3.len]; simp
        obtain ⟨ps', s', k1, k2, k3⟩ := shorten hU hF n (by simp at hl ⊢; omega) hu (h1.walk.append h4.walk)
        exact ⟨ps', s', k1, by omega, k3⟩
/-- a way back with the names that it leaves -/
inductive BackN (fs : List Fact) (q : Pi) : Int → Int → List Nat → List Int → Int → Prop where
  | nil (u : Int) : BackN fs q u u [] [] 0
  | cons {u w v c s : Int} {p : Nat} {ps : List Nat} {ns : List Int} : q u = some p → fs[p]? = some (u, w, c) → BackN fs q w v ps ns s → BackN fs q u v (p :: ps) (u :: ns) (c + s)
theorem BackN.back {fs : List Fact} {q : Pi} {u v s : Int} {ps : List Nat} {ns : List Int} (h : BackN fs q u v ps ns s) : Back fs q u v ps s := by
  induction h with
  | nil => exact .nil _
  | cons hq hf _ ih => exact .cons hq hf ih
theorem BackN.walkN {fs : List Fact} {q : Pi} {u v s : Int} {ps : List Nat} {ns : List Int} (h : BackN fs q u v ps ns s) : WalkN fs u v ps ns s := by
  induction h with
  | nil => exact .nil _
  | cons hq hf _ ih => exact .cons hf ih
theorem BackN.snoc {fs : List Fact} {q : Pi} {u v w s c : Int} {p : Nat} {ps : List Nat} {ns : List Int} (h : BackN fs q u v ps ns s) (hq : q v = some p) (hf : fs[p]? = some (v, w, c)) : BackN fs q u w (ps ++ [p]) (ns ++ [v]) (s + c) := by
  induction h with
  | nil =>
    have := BackN.cons hq hf (.nil w)
    simpa [Int.add_comm] using this
  | cons hq' hf' _ ih => rw [Int.add_assoc]; exact .cons hq' hf' (ih hq hf)
theorem BackN.split {fs : List Fact} {q : Pi} : ∀ {a b : List Int} {u v s : Int} {ps : List Nat} {y : Int}, BackN fs q u v ps (a ++ y :: b) s → ∃ ps1 s1 ps2 s2, BackN fs q u y ps1 a s1 ∧ BackN fs q y v ps2 (y :: b) s2 ∧ ps = ps1 ++ ps2 ∧ s = s1 + s2
  | [], b, u, v, s, ps, y, h => by
    cases h with
    | cons hq hf k => exact ⟨[], 0, _, _, .nil _, .cons hq hf k, rfl, by omega⟩
  | x :: a, b, u, v, s, ps, y, h => by
    cases h with
    | cons hq hf k =>
      obtain ⟨ps1, s1, ps2, s2, h1, h2, rfl, rfl⟩ := BackN.split k
      exact ⟨_ :: ps1, _, ps2, s2, .cons hq hf h1, h2, rfl, by omega⟩
/-- the way back is the only one -/
theorem Back.front {fs : List Fact} {q : Pi} {u v s : Int} {p : Nat} {ps : List Nat} (h : Back fs q u v (p :: ps) s) : ∃ w c t, q u = some p ∧ fs[p]? = some (u, w, c) ∧ Back fs q w v ps t ∧ s = c + t := by
  cases h with
  | cons hq hf k => exact ⟨_, _, _, hq, hf, k, rfl⟩
theorem Back.snoc {fs : List Fact} {q : Pi} {u v w s c : Int} {p : Nat} {ps : List Nat} (h : Back fs q u v ps s) (hq : q v = some p) (hf : fs[p]? = some (v, w, c)) : Back fs q u w (ps ++ [p]) (s + c) := by
  have := h.append (.cons hq hf (.nil w))
  simpa [Int.add_comm] using this
/-! ### sums are sums of walks -/
def InvW (fs : List Fact) (l0 l : Mp) : Prop := ∀ u a, l u = some a → ∃ v ps s b, Walk fs u v ps s ∧ l0 v = some b ∧ a = s + b
theorem invW_upd {fs : List Fact} {l0 l : Mp} {p : Nat} {i j c b : Int} (hf : fs[p]? = some (i, j, c)) (hj : l j = some b) (h : InvW fs l0 l) : InvW fs l0 (upd l i (b + c)) := by
  intro u a hu
  by_cases e : u = i
  · subst e
    rw [upd_same] at hu; cases hu
    obtain ⟨v, ps, s, b', h1, h2, h3⟩ := h j b hj
    exact ⟨v, p :: ps, c + s, b', .cons hf h1, h2, by omega⟩
  · rw [upd_ne e] at hu
    exact h u a hu
/-- where the facts have numbers, so many rounds are enough -/
theorem rounds_stop {fs : List Fact} {U : List Int} (hU : Names fs U) (hF : Feas fs) {l : Mp} {q : Pi} {n : Nat} (hn : U.length ≤ n + 1) :
    (pass fs (rounds fs n (l, q)).1 (rounds fs n (l, q)).2).2.2 = false := by
  cases hc : (pass fs (rounds fs n (l, q)).1 (rounds fs n (l, q)).2).2.2 with
  | false => rfl
  | true =>
    obtain ⟨m, hm, i, j, c, b, h1, h2, h3⟩ := passTo_true hc
    have w0 : InvW fs l l := fun u a h => ⟨u, [], 0, a, .nil _, h, by omega⟩
    have w1 : InvW fs l (rounds fs n (l, q)).1 := rounds_inv (s := (l, q)) (fun x _ => InvW fs l x) (fun x _ p i j c b h1 h2 _ h => invW_upd h1 h2 h) w0 n
    have w2 : InvW fs l (passTo fs (rounds fs n (l, q)).1 (rounds fs n (l, q)).2 m).1 := passTo_inv (fun x _ => InvW fs l x) (fun x _ p i j c b h1 h2 _ h => invW_upd h1 h2 h) w1 m
    obtain ⟨v, ps, s, b0, k1, k2, rfl⟩ := w2 j b h2
    obtain ⟨ps', s', k3, k4, k5⟩ := shorten hU hF _ (Nat.le_refl _) (hU _ (List.mem_of_getElem? h1)).1 (Walk.cons h1 k1)
    obtain ⟨a, ha, e⟩ := rounds_walk (q := q) k2 n k3 (by omega)
    obtain ⟨a', ha', e'⟩ := passTo_le fs (rounds fs n (l, q)).1 (rounds fs n (l, q)).2 0 m (Nat.zero_le _) i a ha
    have := h3 a' ha'
    omega
/-- a round that changes something: somewhere a sum is smaller behind it -/
theorem pass_drop {fs : List Fact} {l : Mp} {q : Pi} (h : (pass fs l q).2.2 = true) (hl : ∀ f ∈ fs, ∃ a, l f.1 = some a) : ∃ f ∈ fs, ∃ a a', l f.1 = some a ∧ (pass fs l q).1 f.1 = some a' ∧ a' < a := by
  obtain ⟨m, hm, i, j, c, b, h1, h2, h3⟩ := passTo_true h
  have hf := List.mem_of_getElem? h1
  obtain ⟨a, ha⟩ := hl _ hf
  obtain ⟨a1, ha1, e1⟩ := passTo_le fs l q 0 m (Nat.zero_le _) i a ha
  have lt := h3 a1 ha1
  have mid : ∃ a2, (passTo fs l q (m + 1)).1 i = some a2 ∧ a2 ≤ b + c := by
    rw [passTo_succ]
    rcases step_cases fs (passTo fs l q m) m with ⟨e, k⟩ | ⟨i', j', c', b', k1, k2, k3, e⟩
    · rw [e]; exact k i j c b h1 h2
    · rw [h1] at k1; cases k1
      rw [h2] at k2; cases k2
      rw [e]; exact ⟨_, upd_same, Int.le_refl _⟩
  obtain ⟨a2, ha2, e2⟩ := mid
  obtain ⟨a3, ha3, e3⟩ := passTo_le fs l q (m + 1) fs.length (by omega) i a2 ha2
  exact ⟨_, hf, a, a3, ha, ha3, by omega⟩
/-- a round that changes nothing, where all names have sums: the facts have numbers -/
theorem feas_of {fs : List Fact} {U : List Int} (hU : Names fs U) {l : Mp} {q : Pi} (hl : ∀ u ∈ U, ∃ a, l u = some a) (h : (pass fs l q).2.2 = false) : ∀ f ∈ fs, Sat (fun u => (l u).getD 0) f := by
  intro f hf
  obtain ⟨i, j, c⟩ := f
  obtain ⟨p, hp⟩ := List.mem_iff_getElem?.mp hf
  obtain ⟨b, hb⟩ := hl j (hU _ hf).2
  obtain ⟨a, ha, e⟩ := pass_stable h hp hb
  show (l i).getD 0 ≤ (l j).getD 0 + c
  rw [ha, hb]
  exact e
theorem rounds_le (fs : List Fact) (s : Mp × Pi) : ∀ n, Le s.1 (rounds fs n s).1
  | 0 => .refl _
  | n + 1 => (rounds_le fs s n).trans (passTo_le fs _ _ 0 fs.length (Nat.zero_le _))
/-! ### the sums that began with 0 -/
/-- a name without a last fact has its first sum -/
def InvZ (l0 l : Mp) (q : Pi) : Prop := ∀ u, q u = none → l u = l0 u
theorem invZ_upd {l0 l : Mp} {q : Pi} {i v : Int} {p : Nat} (h : InvZ l0 l q) : InvZ l0 (upd l i v) (upd q i p) := fun u hu => by
  by_cases e : u = i
  · subst e; rw [upd_same] at hu; cases hu
  · rw [upd_ne e] at hu ⊢; exact h u hu
/-- all is as it must be behind n rounds from sums 0, and one more: from a name that became smaller there is a last fact all along -/
theorem root_free {fs : List Fact} {U : List Int} {l0 : Mp} (hz : ∀ u a, l0 u = some a → a = 0) {n : Nat} (hn : n = U.length) {x a a' : Int}
    (ha : (rounds fs n (l0, fun _ => none)).1 x = some a) (ha' : (rounds fs (n + 1) (l0, fun _ => none)).1 x = some a') (hlt : a' < a)
    {v s : Int} {ps : List Nat} (k : Back fs (rounds fs (n + 1) (l0, fun _ => none)).2 x v ps s) (hl : ps.length ≤ n) : ∃ p, (rounds fs (n + 1) (l0, fun _ => none)).2 v = some p := by
  cases hq : (rounds fs (n + 1) (l0, fun _ => none)).2 v with
  | some p => exact ⟨p, rfl⟩
  | none =>
    exfalso
    have A : InvA fs (rounds fs (n + 1) (l0, fun _ => none)).1 (rounds fs (n + 1) (l0, fun _ => none)).2 := rounds_inv (s := (l0, fun _ => none)) (InvA fs) (fun l q p i j c b h1 h2 h3 h => invA_upd h1 h2 h3 h) (fun u p h => by cases h) (n + 1)
    have Z : InvZ l0 (rounds fs (n + 1) (l0, fun _ => none)).1 (rounds fs (n + 1) (l0, fun _ => none)).2 := rounds_inv (s := (l0, fun _ => none)) (InvZ l0) (fun l q p i j c b _ _ _ h => invZ_upd h) (fun u _ => rfl) (n + 1)
    have ev : ∃ b, (rounds fs (n + 1) (l0, fun _ => none)).1 v = some b := by
      by_cases hp : ps = []
      · subst hp; cases k; exact ⟨a', ha'⟩
      · exact back_end A k hp
    obtain ⟨b, hb⟩ := ev
    obtain ⟨a2, h2, e2⟩ := back_le A k hb
    rw [ha'] at h2; cases h2
    have hb0 : l0 v = some b := by rw [← Z v hq]; exact hb
    have b0 := hz v b hb0
    obtain ⟨a3, h3, e3⟩ := rounds_walk (fs := fs) (q := fun _ => none) hb0 n k.walk hl
    rw [ha] at h3; cases h3
    omega
theorem inv_rounds {fs : List Fact} {l0 : Mp} (n : Nat) : InvA fs (rounds fs n (l0, fun _ => none)).1 (rounds fs n (l0, fun _ => none)).2 ∧ InvN fs (rounds fs n (l0, fun _ => none)).2 := by
  refine rounds_inv (fs := fs) (s := (l0, fun _ => none)) (fun l q => InvA fs l q ∧ InvN fs q) (fun l q p i j c b h1 h2 h3 ⟨hA, hN⟩ => ⟨invA_upd h1 h2 h3 hA, invN_upd h1 h2 h3 hA hN⟩) ⟨?_, ?_⟩ n
  · intro u p h; cases h
  · intro u ps s k hp
    cases k with
    | nil => exact (hp rfl).elim
    | cons h _ _ => cases h
/-- behind rounds from {j: 0}: each name with a sum is j or has a last fact -/
theorem last_there {fs : List Fact} {j : Int} (n : Nat) : ∀ u a, (rounds fs n (upd (fun _ => none) j 0, fun _ => none)).1 u = some a → u = j ∨ ∃ p, (rounds fs n (upd (fun _ => none) j 0, fun _ => none)).2 u = some p := by
  refine rounds_inv (fs := fs) (s := (upd (fun _ => none) j 0, fun _ => none)) (fun l q => ∀ u a, l u = some a → u = j ∨ ∃ p, q u = some p) (fun l q p i j' c b h1 h2 h3 h u a hu => ?_) (fun u a hu => ?_) n
  · by_cases e : u = i
    · subst e; exact .inr ⟨p, upd_same⟩
    · rw [upd_ne e] at hu ⊢; exact h u a hu
  · by_cases e : u = j
    · exact .inl e
    · simp only [upd_ne e] at hu; cases hu
end BF
end

section
/-! SpF: what the defs of facts.py compute: dicts, is_integer, unknowns_of, relaxed. -/
namespace Sp
open Mi Sem BF
open PySem (PyData Str)

/-! ### heaps -/
theorem app_get {h l : Hh} {k : Nat} : (h ++ l)[h.length + k]? = l[k]? := by
  rw [List.getElem?_append_right (by omega)]; congr 1; omega
theorem app_get0 {h l : Hh} : (h ++ l)[h.length]? = l[0]? := app_get (k := 0)
theorem app_set {h l : Hh} {k : Nat} {o : O} : (h ++ l).set (h.length + k) o = h ++ l.set k o := by
  rw [List.set_append_right _ _ (by omega)]; congr 2; omega
theorem app_set0 {h l : Hh} {o : O} : (h ++ l).set h.length o = h ++ l.set 0 o := app_set (k := 0)

/-! ### dicts with numbers for keys -/
section
variable {α : Type}
def encM (e : α → W) (m : List (Int × α)) : O := .dk (m.map fun p => (.inl p.1, e p.2))
def dlook (m : List (Int × α)) (k : Int) : Option α := (m.find? fun p => decide (p.1 = k)).map (·.2)
def dput (m : List (Int × α)) (k : Int) (v : α) : List (Int × α) := if m.any (fun p => decide (p.1 = k)) then m.map fun p => if p.1 = k then (p.1, v) else p else m ++ [(k, v)]
theorem look_enc (e : α → W) (m : List (Int × α)) (k : Int) : look (m.map fun p => ((.inl p.1 : Key), e p.2)) (.inl k) = (dlook m k).map e := by
  unfold look dlook
  induction m with
  | nil => rfl
  | cons p m ih =>
    simp only [List.map_cons, List.find?_cons]
    by_cases h : p.1 = k
    · simp [h]
    · simp only [h, decide_false, Sum.inl.injEq]
      exact ih
theorem put_enc (e : α → W) (m : List (Int × α)) (k : Int) (v : α) : put (m.map fun p => ((.inl p.1 : Key), e p.2)) (.inl k) (e v) = (dput m k v).map fun p => ((.inl p.1 : Key), e p.2) := by
  unfold put dput
  simp only [List.any_map, Function.comp_def, Sum.inl.injEq]
  split
  · simp only [List.map_map, Function.comp_def, Sum.inl.injEq]
    refine List.map_congr_left fun p _ => ?_
    split <;> rfl
  · simp
theorem dlook_cons (k v : _) (m : List (Int × α)) (x : Int) : dlook ((k, v) :: m) x = if x = k then some v else dlook m x := by
  unfold dlook
  rw [List.find?_cons]
  by_cases h : x = k
  · subst h; simp
  · have : ¬ k = x := fun e => h e.symm
    simp [h, this]
theorem dlook_none {m : List (Int × α)} {k : Int} : dlook m k = none ↔ k ∉ m.map (·.1) := by
  induction m with
  | nil => simp [dlook]
  | cons p m ih =>
    obtain ⟨a, v⟩ := p
    rw [dlook_cons, List.map_cons, List.mem_cons]
    by_cases h : k = a
    · subst h; simp
    · simp [h, ih]
theorem any_key {m : List (Int × α)} {k : Int} : (m.any fun p => decide (p.1 = k)) = (dlook m k).isSome := by
  induction m with
  | nil => rfl
  | cons p m ih =>
    obtain ⟨a, v⟩ := p
    rw [dlook_cons, List.any_cons, ih]
    by_cases h : k = a
    · subst h; simp
    · have : ¬ a = k := fun e => h e.symm
      simp [h, this]
theorem dlook_dput (m : List (Int × α)) (k : Int) (v : α) : dlook (dput m k v) = upd (dlook m) k v := by
  funext x
  unfold dput
  rw [any_key]
  cases hk : dlook m k with
  | some w =>
    simp only [Option.isSome_some, if_true]
    have go : ∀ m : List (Int × α), dlook (m.map fun p => if p.1 = k then (p.1, v) else p) x = if x = k then (dlook m k).map fun _ => v else dlook m x := by
      intro m
      induction m with
      | nil => simp [dlook]
      | cons p m ih =>
        obtain ⟨a, u⟩ := p
        rw [List.map_cons]
        by_cases ha : a = k
        · subst ha
          simp only [if_true]
          rw [dlook_cons, dlook_cons, ih, dlook_cons]
          by_cases hx : x = a
          · simp [hx]
          · simp [hx]
        · simp only [ha, if_false]
          rw [dlook_cons, dlook_cons, ih, dlook_cons]
          by_cases hx : x = k
          · subst hx
            have : ¬ x = a := fun e => ha e.symm
            simp [this]
          · simp only [hx, if_false]
    rw [go, hk]
    simp [upd]
  | none =>
    simp only [Option.isSome_none, Bool.false_eq_true, if_false]
    have go : ∀ m : List (Int × α), dlook (m ++ [(k, v)]) x = (dlook m x).or (if x = k then some v else none) := by
      intro m
      induction m with
      | nil => rw [List.nil_append, dlook_cons]; simp [dlook]
      | cons p m ih =>
        obtain ⟨a, u⟩ := p
        rw [List.cons_append, dlook_cons, dlook_cons, ih]
        by_cases hx : x = a <;> simp [hx]
    rw [go]
    unfold upd
    by_cases hx : x = k
    · subst hx; simp [hk]
    · simp [hx]
/-- the keys are unlike, and among some names -/
def KeyOk (V : List Int) (m : List (Int × α)) : Prop := (m.map (·.1)).Nodup ∧ ∀ k ∈ m.map (·.1), k ∈ V
theorem KeyOk.nil {V : List Int} : KeyOk V ([] : List (Int × α)) := ⟨List.nodup_nil, fun k h => by simp at h⟩
theorem keys_dput (m : List (Int × α)) (k : Int) (v : α) : (dput m k v).map (·.1) = if k ∈ m.map (·.1) then m.map (·.1) else m.map (·.1) ++ [k] := by
  unfold dput
  rw [any_key]
  cases hk : dlook m k with
  | some w =>
    have : k ∈ m.map (·.1) := by
      rcases Decidable.em (k ∈ m.map (·.1)) with h | h
      · exact h
      · rw [dlook_none.mpr h] at hk; cases hk
    rw [if_pos this]
    simp only [Option.isSome_some, if_true, List.map_map]
    refine List.map_congr_left fun p _ => ?_
    simp only [Function.comp]
    split <;> rfl
  | none =>
    rw [if_neg (dlook_none.mp hk)]
    simp
theorem KeyOk.put {V : List Int} {m : List (Int × α)} (h : KeyOk V m) {k : Int} {v : α} (hk : k ∈ V) : KeyOk V (dput m k v) := by
  unfold KeyOk
  rw [keys_dput]
  split
  · exact h
  · rename_i hn
    refine ⟨?_, fun x hx => ?_⟩
    · rw [List.nodup_append]
      refine ⟨h.1, by simp, fun a ha b hb => ?_⟩
      simp at hb
      subst hb
      exact fun e => hn (e ▸ ha)
    · rcases List.mem_append.mp hx with hx | hx
      · exact h.2 x hx
      · simp at hx; rw [hx]; exact hk
theorem KeyOk.len {V : List Int} {m : List (Int × α)} (h : KeyOk V m) : m.length ≤ V.length := by
  have := nodup_le h.1 h.2
  simpa using this
theorem opIx_dk {e : α → W} {m : List (Int × α)} {k : Int} {v : α} {a : Nat} {M : Hh} (h : M[a]? = some (encM e m)) (hv : dlook m k = some v) : opIx (.ref a) (.d (.int k)) M = some (e v, M) := by
  simp [opIx, h, encM, dget, keyW, look_enc, hv]
theorem opIn_dk {neg : Bool} {e : α → W} {m : List (Int × α)} {k : Int} {a : Nat} {M : Hh} (h : M[a]? = some (encM e m)) : opInB neg (.d (.int k)) (.ref a) M = some (.bool (neg != (dlook m k).isSome), M) := by
  simp [opInB, h, encM, dget, keyW, look_enc]
theorem setIx_dk {e : α → W} {m : List (Int × α)} {k : Int} {v : α} {a : Nat} {M : Hh} (h : M[a]? = some (encM e m)) (hl : m.length < 16777216) : setIx (.ref a) (.d (.int k)) (e v) M = some (M.set a (encM e (dput m k v))) := by
  simp [setIx, h, encM, keyW, put_enc, hl]
end
/-- dicts of sums, of places -/
abbrev eI : Int → W := W.int
abbrev eN : Nat → W := fun n => W.int (n : Int)

/-! ### facts -/
def encF (f : Fact) : PyData := .tuple [.int f.1, .int f.2.1, .int f.2.2]
def encFs (fs : List Fact) : PyData := .tuple (fs.map encF)
@[simp] theorem items_F (f : Fact) : (W.d (encF f)).items = some [.int f.1, .int f.2.1, .int f.2.2] := (rfl)
@[simp] theorem items_Fs (fs : List Fact) : (W.d (encFs fs)).items = some (fs.map fun f => .d (encF f)) := by simp [encFs, W.items, Function.comp_def]
@[simp] theorem len_Fs (fs : List Fact) (M : Hh) : bLen [.d (encFs fs)] M = some (.int fs.length, M) := by simp [bLen, encFs, W.items]
theorem ix_Fs {fs : List Fact} {p : Nat} {f : Fact} {M : Hh} (h : fs[p]? = some f) : opIx (.d (encFs fs)) (.d (.int (p : Int))) M = some (.d (encF f), M) := opIx_tup (by simp [h])
@[simp] theorem ix_F0 (f : Fact) (M : Hh) : opIx (.d (encF f)) (.d (.int 0)) M = some (.int f.1, M) := opIx_tup (n := 0) rfl
@[simp] theorem ix_F1 (f : Fact) (M : Hh) : opIx (.d (encF f)) (.d (.int 1)) M = some (.int f.2.1, M) := opIx_tup (n := 1) rfl
@[simp] theorem ix_F2 (f : Fact) (M : Hh) : opIx (.d (encF f)) (.d (.int 2)) M = some (.int f.2.2, M) := opIx_tup (n := 2) rfl
@[simp] theorem add_int (i j : Int) (M : Hh) : opAdd (.d (.int i)) (.d (.int j)) M = some (.int (i + j), M) := (rfl)
@[simp] theorem sub_int (i j : Int) (M : Hh) : opSub (.d (.int i)) (.d (.int j)) M = some (.int (i - j), M) := (rfl)
@[simp] theorem neg_int (i : Int) (M : Hh) : opNeg (.d (.int i)) M = some (.int (-i), M) := (rfl)
@[simp] theorem cmp_int (f : Int → Int → Bool) (i j : Int) (M : Hh) : cmpI f (.d (.int i)) (.d (.int j)) M = some (.bool (f i j), M) := (rfl)
@[simp] theorem eq_int (neg : Bool) (i j : Int) (M : Hh) : opEqB neg (.d (.int i)) (.d (.int j)) M = some (.bool (neg != (i == j)), M) := by simp [opEqB, PyData.depth, PyData.eqv]

theorem is_integer_ok {w : W} {h : Hh} {t : String} (ht : tyW h w = some t) : m_is_integer [w] h = .ok (.bool (t == "int")) h := by
  unfold m_is_integer
  simp [fn, b_is_integer, isI, ht]
  by_cases h1 : t = "int"
  · subst h1; simp
  · by_cases h2 : t = "bool"
    · subst h2; simp
    · simp [h1, h2]

/-! ### unknowns_of -/
def add1 (U : List Int) (x : Int) : List Int := if x ∈ U then U else U ++ [x]
def unk (fs : List Fact) : List Int := fs.foldl (fun U f => add1 (add1 U f.1) f.2.1) [0]
theorem add1_nodup {U : List Int} {x : Int} (h : U.Nodup) : (add1 U x).Nodup := by
  unfold add1; split
  · exact h
  · rename_i hn
    rw [List.nodup_append]
    exact ⟨h, by simp, fun a ha b hb => by simp at hb; subst hb; exact fun e => hn (e ▸ ha)⟩
theorem mem_add1 {U : List Int} {x y : Int} : y ∈ add1 U x ↔ y ∈ U ∨ y = x := by
  unfold add1; split
  · rename_i h
    exact ⟨.inl, fun q => q.elim id fun e => e ▸ h⟩
  · simp
theorem unk_ok (fs : List Fact) : (unk fs).Nodup ∧ Names fs (unk fs) ∧ 0 ∈ unk fs ∧ (unk fs).length ≤ 2 * fs.length + 1 := by
  have go : ∀ (fs : List Fact) (U : List Int), U.Nodup → (fs.foldl (fun U f => add1 (add1 U f.1) f.2.1) U).Nodup ∧ (∀ x ∈ U, x ∈ fs.foldl (fun U f => add1 (add1 U f.1) f.2.1) U) ∧
      Names fs (fs.foldl (fun U f => add1 (add1 U f.1) f.2.1) U) ∧ (fs.foldl (fun U f => add1 (add1 U f.1) f.2.1) U).length ≤ 2 * fs.length + U.length := by
    intro fs
    induction fs with
    | nil => intro U h; exact ⟨h, fun x hx => hx, (fun f hf => by cases hf), by simp⟩
    | cons f fs ih =>
      intro U h
      obtain ⟨a, b, c, d⟩ := ih (add1 (add1 U f.1) f.2.1) (add1_nodup (add1_nodup h))
      refine ⟨a, fun x hx => b x (mem_add1.mpr (.inl (mem_add1.mpr (.inl hx)))), fun g hg => ?_, ?_⟩
      · rcases List.mem_cons.mp hg with rfl | hg
        · exact ⟨b _ (mem_add1.mpr (.inl (mem_add1.mpr (.inr rfl)))), b _ (mem_add1.mpr (.inr rfl))⟩
        · exact c g hg
      · have l1 : ∀ (U : List Int) x, (add1 U x).length ≤ U.length + 1 := fun U x => by unfold add1; split <;> simp
        have := l1 (add1 U f.1) f.2.1
        have := l1 U f.1
        rw [List.foldl_cons, List.length_cons]; omega
  obtain ⟨a, b, c, d⟩ := go fs [0] (by simp)
  exact ⟨a, c, b 0 (by simp), by unfold unk; simpa using d⟩
theorem any_eqv (xs : List Int) (x : Int) : ((xs.map PyData.int).any fun z => PyData.eqv z (.int x)) = decide (x ∈ xs) := by
  induction xs with
  | nil => simp
  | cons y ys ih =>
    rw [List.map_cons, List.any_cons, ih]
    simp only [PyData.eqv, List.mem_cons]
    by_cases h : x = y
    · subst h; simp
    · have : ¬ y = x := fun e => h e.symm
      simp [h, this]
theorem mapM_int (M : Hh) (n : Nat) (xs : List Int) : (xs.map W.int).mapM (dataW M n) = some (xs.map PyData.int) := by
  have : xs.map W.int = (xs.map PyData.int).map W.d := by simp
  rw [this, mapM_dataW_d]
theorem depthAll_int (xs : List Int) : PyData.depthAll (xs.map PyData.int) = 0 := by
  induction xs with
  | nil => rfl
  | cons x xs ih => rw [List.map_cons, PyData.depthAll, ih]; simp [PyData.depth]
theorem opIn_ints {neg : Bool} {xs : List Int} {x : Int} {a : Nat} {M : Hh} (h : M[a]? = some (.lst (xs.map W.int))) : opInB neg (.d (.int x)) (.ref a) M = some (.bool (neg != decide (x ∈ xs)), M) := by
  have e : dataW M dataDeep (.ref a) = some (.list (xs.map PyData.int)) := by
    show dataW M 5 (.ref a) = _
    unfold dataW
    rw [h]
    simp only [mapM_int, Option.map_some]
  simp only [opInB, h, e, dataW_d, PyData.depth, depthAll_int, any_eqv]
  simp
theorem app_int {xs : List Int} {x : Int} {a : Nat} {M : Hh} (h : M[a]? = some (.lst (xs.map W.int))) (hl : xs.length < 16777216) : mAppend [.ref a, .d (.int x)] M = some (.non, M.set a (.lst ((xs ++ [x]).map W.int))) := by
  simp [mAppend, h, hl]
theorem l1_unknowns {fs : List Fact} {h : Hh} (U : List Int) (x : Int) (x2 x3 x4 : Option W) (hl : U.length < 16777216) : l1_unknowns_of
      [some (.d (encFs fs)), some (.ref h.length), x2, x3, x4, some (.int x)] (h ++ [.lst (U.map W.int)]) = .nx [some (.d (encFs fs)), some (.ref h.length), x2, x3, x4, some (.int x)] (h ++ [.lst ((add1 U x).map W.int)]) := by
  have hg : (h ++ [O.lst (U.map W.int)])[h.length]? = some (.lst (U.map W.int)) := by simp
  simp [l1_unknowns_of, opIn_ints hg, isLst]
  by_cases hx : x ∈ U
  · simp [hx, add1]
  · simp [hx, add1, app_int hg hl]
theorem unknowns_ok {fs : List Fact} {h : Hh} (hn : fs.length < 4000000) : m_unknowns_of [.d (encFs fs)] h = .ok (.ref h.length) (h ++ [.lst ((unk fs).map W.int)]) := by
  obtain ⟨L2, h2, e, rfl, ⟨x2, x3, x4, x5, rfl⟩, hl⟩ := forL_all (ok := (Src.tp (fs.map fun f => .d (encF f))).ok) (g := .tp [2, 3, 4]) (body := l0_unknowns_of) (enc := fun f => W.d (encF f)) (xs := fs)
    (fun pre L h' => h' = h ++ [.lst ((pre.foldl (fun U f => add1 (add1 U f.1) f.2.1) [0]).map W.int)] ∧ (∃ x2 x3 x4 x5, L = [some (.d (encFs fs)), some (.ref h.length), x2, x3, x4, x5]) ∧
      (pre.foldl (fun U f => add1 (add1 U f.1) f.2.1) [0]).length ≤ 2 * pre.length + 1) (fun _ _ _ _ => trivial) (fun pre f post L h' hx ⟨e1, ⟨x2, x3, x4, x5, e2⟩, hl⟩ => by
      subst e1 e2
      have lp : pre.length < 4000000 := by rw [hx] at hn; simp at hn; omega
      have l1 : ∀ (U : List Int) x, (add1 U x).length ≤ U.length + 1 := fun U x => by unfold add1; split <;> simp
      generalize hU : pre.foldl (fun U f => add1 (add1 U f.1) f.2.1) [0] = U at hl ⊢
      have l2 := l1 U f.1
      have l3 := l1 (add1 U f.1) f.2.1
      refine ⟨_, rfl, [some (.d (encFs fs)), some (.ref h.length), some (.int f.1), some (.int f.2.1), some (.int f.2.2), some (.int f.2.1)], h ++ [.lst ((add1 (add1 U f.1) f.2.1).map W.int)], .inl (by
        simp [l0_unknowns_of, mkTup, allD, W.items, sizeMax, forL, l1_unknowns _ _ _ _ _ (show U.length < 16777216 by omega), l1_unknowns _ _ _ _ _ (show (add1 U f.1).length < 16777216 by omega)]), ?_⟩
      rw [List.foldl_append, hU]
      exact ⟨rfl, ⟨_, _, _, _, rfl⟩, by simp; omega⟩) (L := [some (.d (encFs fs)), some (.ref h.length), none, none, none, none]) (h := h ++ [.lst [.int 0]]) ⟨rfl, ⟨none, none, none, none, rfl⟩, by simp⟩
  simp [m_unknowns_of, fn, b_unknowns_of, List.replicate, sizeMax]
  simp only [e]
  simp [gc]
  rfl

/-! ### relaxed -/
/-- the sums and last facts that two dicts hold -/
abbrev St2 := List (Int × Int) × List (Int × Nat)
def relax1 (fs : List Fact) (s : St2 × Bool) (p : Nat) : St2 × Bool :=
  match fs[p]? with
  | none => s
  | some (i, j, c) => match dlook s.1.1 j with
    | none => s
    | some b => match dlook s.1.1 i with
      | none => ((dput s.1.1 i (b + c), dput s.1.2 i p), true)
      | some a => if b + c < a then ((dput s.1.1 i (b + c), dput s.1.2 i p), true) else s
def relaxTo (fs : List Fact) (s : St2) (n : Nat) : St2 × Bool := (List.range n).foldl (relax1 fs) (s, false)
def relax (fs : List Fact) (s : St2) : St2 × Bool := relaxTo fs s fs.length
theorem relaxTo_succ (fs : List Fact) (s : St2) (n : Nat) : relaxTo fs s (n + 1) = relax1 fs (relaxTo fs s n) n := by simp [relaxTo, List.range_succ]
abbrev KeyOk2 (V : List Int) (s : St2) : Prop := KeyOk V s.1 ∧ KeyOk V s.2
theorem relax1_step (fs : List Fact) (s : St2 × Bool) (p : Nat) : (dlook (relax1 fs s p).1.1, dlook (relax1 fs s p).1.2, (relax1 fs s p).2) = step fs (dlook s.1.1, dlook s.1.2, s.2) p := by
  unfold relax1 step
  cases hf : fs[p]? with
  | none => rfl
  | some f =>
    obtain ⟨i, j, c⟩ := f
    cases hj : dlook s.1.1 j with
    | none => simp [hj]
    | some b =>
      cases hi : dlook s.1.1 i with
      | none => simp [hj, hi, dlook_dput]
      | some a =>
        by_cases hlt : b + c < a
        · simp [hj, hi, hlt, dlook_dput]
        · simp [hj, hi, hlt]
theorem relax1_keys {fs : List Fact} {V : List Int} (hV : Names fs V) {s : St2 × Bool} (h : KeyOk2 V s.1) (p : Nat) : KeyOk2 V (relax1 fs s p).1 := by
  unfold relax1
  split
  · exact h
  · rename_i i j c hf
    have hi : i ∈ V := (hV _ (List.mem_of_getElem? hf)).1
    split
    · exact h
    · split
      · exact ⟨h.1.put hi, h.2.put hi⟩
      · split
        · exact ⟨h.1.put hi, h.2.put hi⟩
        · exact h
theorem relaxTo_step (fs : List Fact) (s : St2) : ∀ n, (dlook (relaxTo fs s n).1.1, dlook (relaxTo fs s n).1.2, (relaxTo fs s n).2) = passTo fs (dlook s.1) (dlook s.2) n
  | 0 => rfl
  | n + 1 => by rw [relaxTo_succ, relax1_step, passTo_succ, relaxTo_step fs s n]
theorem relaxTo_keys {fs : List Fact} {V : List Int} (hV : Names fs V) {s : St2} (h : KeyOk2 V s) : ∀ n, KeyOk2 V (relaxTo fs s n).1
  | 0 => h
  | n + 1 => by rw [relaxTo_succ]; exact relax1_keys hV (relaxTo_keys hV h n) n
theorem relax_pass (fs : List Fact) (s : St2) : dlook (relax fs s).1.1 = (pass fs (dlook s.1) (dlook s.2)).1 ∧ dlook (relax fs s).1.2 = (pass fs (dlook s.1) (dlook s.2)).2.1 ∧ (relax fs s).2 = (pass fs (dlook s.1) (dlook s.2)).2.2 := by
  have := relaxTo_step fs s fs.length
  exact ⟨congrArg (·.1) this, congrArg (·.2.1) this, congrArg (·.2.2) this⟩
/-- the heap with the two dicts -/
def two (h : Hh) (a b : Nat) (s : St2) : Hh := (h.set a (encM eI s.1)).set b (encM eN s.2)
section
variable {h : Hh} {a b : Nat} (la : a < h.length) (lb : b < h.length) (hab : a ≠ b) (s : St2)
include la lb hab
theorem two_a : (two h a b s)[a]? = some (encM eI s.1) := by
  unfold two; rw [List.getElem?_set_ne (Ne.symm hab), List.getElem?_set_self la]
theorem two_b : (two h a b s)[b]? = some (encM eN s.2) := by
  unfold two; rw [List.getElem?_set_self (by simpa using lb)]
theorem two_put (x : List (Int × Int)) (y : List (Int × Nat)) : ((two h a b s).set a (encM eI x)).set b (encM eN y) = two h a b (x, y) := by
  unfold two
  rw [List.set_comm _ _ (Ne.symm hab), List.set_set, List.set_set]
end
theorem two_id {h : Hh} {a b : Nat} {s : St2} (ha : h[a]? = some (encM eI s.1)) (hb : h[b]? = some (encM eN s.2)) : two h a b s = h := by
  have same : ∀ {l : Hh} {k : Nat} {o : O}, l[k]? = some o → l.set k o = l := fun {l k o} e => by
    refine List.ext_getElem? fun i => ?_
    rw [List.getElem?_set]
    split
    · rename_i e2; subst e2
      split
      · exact e.symm
      · rename_i hl; rw [List.getElem?_eq_none (by omega)] at e; cases e
    · rfl
  unfold two
  rw [same ha, same hb]
theorem l0_relaxed_ok {fs : List Fact} {h : Hh} {a b p : Nat} (la : a < h.length) (lb : b < h.length) (hab : a ≠ b) (hp : p < fs.length) (s : St2 × Bool) (x5 x6 x7 : Option W) (h1 : s.1.1.length < 16777216) (h2 : s.1.2.length < 16777216) :
    ∃ y5 y6 y7, l0_relaxed [some (.d (encFs fs)), some (.ref a), some (.ref b), some (.bool s.2), some (.int (p : Int)), x5, x6, x7] (two h a b s.1) =
      .nx [some (.d (encFs fs)), some (.ref a), some (.ref b), some (.bool (relax1 fs s p).2), some (.int (p : Int)), y5, y6, y7] (two h a b (relax1 fs s p).1) := by
  have hf : fs[p]? = some fs[p] := by simp [hp]
  generalize fs[p] = f at hf
  obtain ⟨i, j, c⟩ := f
  have hA := two_a la lb hab
  have hB := two_b la lb hab
  refine ⟨some (.int i), some (.int j), some (.int c), ?_⟩
  have sA : ∀ (q : List (Int × Int)), setIx (.ref b) (.d (.int i)) (eN p) ((two h a b s.1).set a (encM eI q)) = some (two h a b (q, dput s.1.2 i p)) := fun q => by
    have e : ((two h a b s.1).set a (encM eI q))[b]? = some (encM eN s.1.2) := by rw [List.getElem?_set_ne hab]; exact hB s.1
    rw [setIx_dk e h2, two_put la lb hab]
  simp [l0_relaxed, ix_Fs hf, setAll, opIn_dk (hA _), relax1, hf]
  cases hj : dlook s.1.1 j with
  | none => simp
  | some d =>
    simp [opIx_dk (hA _) hj]
    cases hi : dlook s.1.1 i with
    | none => simp [opIx_dk (hA _) hj, setIx_dk (e := eI) (hA _) h1, sA]
    | some a' =>
      simp [opIx_dk (hA _) hi]
      by_cases hlt : d + c < a'
      · simp [hlt, opIx_dk (hA _) hj, setIx_dk (e := eI) (hA _) h1, sA]
      · simp [hlt]
theorem relaxed_ok {fs : List Fact} {V : List Int} {s : St2} {h : Hh} {a b : Nat} (ha : h[a]? = some (encM eI s.1)) (hb : h[b]? = some (encM eN s.2)) (hab : a ≠ b)
    (hV : Names fs V) (hl : V.length < 16777216) (hn : fs.length < 4000000) (hs : KeyOk2 V s) :
    m_relaxed [.d (encFs fs), .ref a, .ref b] h = .ok (.bool (relax fs s).2) (two h a b (relax fs s).1) := by
  have la : a < h.length := (List.getElem?_eq_some_iff.mp ha).1
  have lb : b < h.length := (List.getElem?_eq_some_iff.mp hb).1
  obtain ⟨L2, h2, e, rfl, x4, x5, x6, x7, rfl⟩ := forL_num (ok := (Src.rg 0 fs.length).ok) (g := .nm 4) (body := l0_relaxed) (n := fs.length)
    (fun n L h' => h' = two h a b (relaxTo fs s n).1 ∧ ∃ x4 x5 x6 x7, L = [some (.d (encFs fs)), some (.ref a), some (.ref b), some (.bool (relaxTo fs s n).2), x4, x5, x6, x7]) (fun _ _ _ _ => trivial)
    (fun p L h' hp ⟨e1, x4, x5, x6, x7, e2⟩ => by
      subst e1 e2
      have k := relaxTo_keys hV hs p
      obtain ⟨y5, y6, y7, e⟩ := l0_relaxed_ok la lb hab hp (relaxTo fs s p) x5 x6 x7 (Nat.lt_of_le_of_lt k.1.len hl) (Nat.lt_of_le_of_lt k.2.len hl)
      exact ⟨_, rfl, _, _, .inl e, by rw [relaxTo_succ], _, _, _, _, by rw [relaxTo_succ]⟩)
    (L := [some (.d (encFs fs)), some (.ref a), some (.ref b), some (.bool false), none, none, none, none]) (h := h) ⟨(two_id ha hb).symm, none, none, none, none, rfl⟩
  simp [m_relaxed, fn, b_relaxed, List.replicate]
  rw [if_pos (by omega)]
  simp only [R.then_ok, items_rg, e]
  simp [gc_len, two]
  exact ⟨rfl, rfl⟩
end Sp
end

section
/-! SpF2: walked_round. -/
namespace Sp
open Mi Sem BF
open PySem (PyData Str)
def encR (row : List Nat) : PyData := .tuple (row.map fun (p : Nat) => .int (p : Int))
def wR (row : List Nat) : List W := row.map fun (p : Nat) => W.int (p : Int)
theorem wR_d (row : List Nat) : wR row = (row.map fun (p : Nat) => PyData.int (p : Int)).map W.d := by simp [wR]
theorem wR_snoc (row : List Nat) (p : Nat) : wR row ++ [W.int (p : Int)] = wR (row ++ [p]) := by simp [wR]
@[simp] theorem wR_len (row : List Nat) : (wR row).length = row.length := by simp [wR]
theorem wR_eq (row : List Nat) : wR row = (row.map fun (p : Nat) => (p : Int)).map W.int := by simp [wR]
theorem app_lst {ws : List W} {x : W} {a : Nat} {M : Hh} (h : M[a]? = some (.lst ws)) (hl : ws.length < 16777216) : mAppend [.ref a, x] M = some (.non, M.set a (.lst (ws ++ [x]))) := by
  simp [mAppend, h, hl]
theorem isLst_of {ws : List W} {a : Nat} {M : Hh} (h : M[a]? = some (.lst ws)) : isLst M (.ref a) = true := by simp [isLst, h]
theorem tuple_lst {xs : List PyData} {a : Nat} {M : Hh} (h : M[a]? = some (.lst (xs.map W.d))) : bTuple [.ref a] M = some (.d (.tuple xs), M) := by simp [bTuple, h]
theorem tuple_row {row : List Nat} {a : Nat} {M : Hh} (h : M[a]? = some (.lst (wR row))) : bTuple [.ref a] M = some (.d (encR row), M) := tuple_lst (by rw [h, wR_d])
theorem data_ints {xs : List Int} {a : Nat} {M : Hh} (h : M[a]? = some (.lst (xs.map W.int))) : dataW M dataDeep (.ref a) = some (.list (xs.map PyData.int)) := by
  show dataW M 5 (.ref a) = _
  unfold dataW
  rw [h]
  simp only [mapM_int, Option.map_some]
theorem eq_nil {xs : List Int} {a b : Nat} {M : Hh} (h : M[a]? = some (.lst (xs.map W.int))) (hb : M[b]? = some (.lst [])) : opEqB false (.ref a) (.ref b) M = some (.bool xs.isEmpty, M) := by
  have e1 := data_ints h
  have e2 := data_ints (xs := []) (by simpa using hb)
  simp only [opEqB, e1, e2]
  cases xs with
  | nil => simp [PyData.depth, PyData.depthAll, PyData.eqv, PyData.eqvAll]
  | cons x xs => simp [PyData.depth, PyData.depthAll, PyData.eqv, PyData.eqvAll]
theorem get2_0 {h : Hh} {x y : O} : (h ++ [x, y])[h.length]? = some x := by rw [app_get0]; rfl
theorem get2_1 {h : Hh} {x y : O} : (h ++ [x, y])[h.length + 1]? = some y := by rw [app_get]; rfl
theorem set2_1 {h : Hh} {x y z : O} : (h ++ [x, y]).set (h.length + 1) z = h ++ [x, z] := by rw [app_set]; rfl
theorem walked_round_ok {fs : List Fact} {U : List Int} {last : List (Int × Nat)} {h : Hh} {b : Nat} {x : Int} (hb : h[b]? = some (encM eN last)) (hU : Names fs U) (hl : U.length < 900000) (hx : x ∈ U)
    (hN : InvN fs (dlook last)) (hq : ∀ u p, dlook last u = some p → ∃ w c, fs[p]? = some (u, w, c)) (hr : ∀ v ps s, Back fs (dlook last) x v ps s → ps.length ≤ U.length → ∃ p, dlook last v = some p) :
    ∃ row : List Nat, m_walked_round [.d (encFs fs), .ref b, .d (.int x)] h = .ok (.d (encR row)) h ∧ row.length ≤ U.length ∧ ∃ u s, Walk fs u u row s ∧ row ≠ [] ∧ s < 0 := by
  have lb : b < h.length := (List.getElem?_eq_some_iff.mp hb).1
  have hB : ∀ l : Hh, (h ++ l)[b]? = some (encM eN last) := fun l => by rw [List.getElem?_append_left lb]; exact hb
  -- along the last facts until a name comes again
  obtain ⟨L1, h1, e1, met, u, ps, s, rfl, rfl, k1, nd1, hin, hle⟩ := whileL_nat (t := tVal (eOp2 opNotIn (eVar 4) (eVar 3))) (body := l0_walked_round)
    (fun m L h' => ∃ met u ps s, L = [some (.d (encFs fs)), some (.ref b), some (.int x), some (.ref h.length), some (.int u), none, none] ∧ h' = h ++ [.lst (met.map W.int)] ∧ BackN fs (dlook last) x u ps met s ∧ met.Nodup ∧ m + met.length = U.length + 1)
    (fun L h' => ∃ met u ps s, L = [some (.d (encFs fs)), some (.ref b), some (.int x), some (.ref h.length), some (.int u), none, none] ∧ h' = h ++ [.lst (met.map W.int)] ∧ BackN fs (dlook last) x u ps met s ∧ met.Nodup ∧ u ∈ met ∧ met.length ≤ U.length)
    (fun m L h' ⟨met, u, ps, s, e1, e2, k, nd, hm⟩ => by
      subst e1 e2
      have hg : (h ++ [O.lst (met.map W.int)])[h.length]? = some (.lst (met.map W.int)) := by simp
      have ml : met.length ≤ U.length := nodup_le nd (k.walkN.mem hU)
      by_cases hin : u ∈ met
      · exact .inl ⟨h ++ [.lst (met.map W.int)], by simp [opIn_ints hg, hin], met, u, ps, s, rfl, rfl, k, nd, hin, ml⟩
      · right
        have uU : u ∈ U := walkN_end hU k.walkN hx
        obtain ⟨p, hp⟩ := hr u ps s k.back (by rw [← k.walkN.len]; exact ml)
        obtain ⟨w, c, hf⟩ := hq u p hp
        have nd2 : (met ++ [u]).Nodup := by
          rw [List.nodup_append]
          exact ⟨nd, by simp, fun a ha b hb => by simp at hb; subst hb; exact fun e => hin (e ▸ ha)⟩
        have ml2 : (met ++ [u]).length ≤ U.length := nodup_le nd2 (fun y hy => by
          rcases List.mem_append.mp hy with hy | hy
          · exact k.walkN.mem hU y hy
          · simp at hy; rw [hy]; exact uU)
        refine ⟨h ++ [.lst (met.map W.int)], [some (.d (encFs fs)), some (.ref b), some (.int x), some (.ref h.length), some (.int w), none, none], h ++ [.lst ((met ++ [u]).map W.int)], by simp [opIn_ints hg, hin], .inl ?_, m - 1, ?_, met ++ [u], w, ps ++ [p], s + c, rfl, rfl, k.snoc hp hf, nd2, ?_⟩
        · have := app_int hg (x := u) (show met.length < 16777216 by omega)
          simp [l0_walked_round, isLst_of hg, this, opIx_dk (hB _) hp, ix_Fs hf]
        · simp at ml2; omega
        · simp at ml2 ⊢; omega) 1000000 (U.length + 1) (L := [some (.d (encFs fs)), some (.ref b), some (.int x), some (.ref h.length), some (.int x), none, none]) (h := h ++ [.lst []])
      ⟨[], x, [], 0, rfl, rfl, .nil x, List.nodup_nil, by simp⟩ (by omega)
  obtain ⟨ma, mb, rfl⟩ := List.append_of_mem hin
  obtain ⟨ps1, s1, ps2, s2, -, k2, rfl, rfl⟩ := BackN.split k1
  have l2 : ps2.length ≤ U.length := by
    have := k2.walkN.len
    simp at this hle
    omega
  have n2 : ps2 ≠ [] := fun e => by
    subst e
    have := k2.walkN.len
    simp at this
  -- once around
  obtain ⟨L2, h2, e2, row, t, rfl, rfl, k3, n3, n4⟩ := whileL_nat (t := tOr (tGc (tVal (eOp2 opEq (eVar 6) (eLst aNil)))) (tVal (eOp2 opNe (eVar 4) (eVar 5)))) (body := l1_walked_round)
    (fun m L h' => ∃ row w s1 rest s2, L = [some (.d (encFs fs)), some (.ref b), some (.int x), some (.ref h.length), some (.int w), some (.int u), some (.ref (h.length + 1))] ∧ h' = h ++ [.lst ((ma ++ u :: mb).map W.int), .lst (wR row)] ∧
      Back fs (dlook last) u w row s1 ∧ Back fs (dlook last) w u rest s2 ∧ (row = [] → rest ≠ []) ∧ row.length + rest.length ≤ U.length ∧ m = rest.length)
    (fun L h' => ∃ row s1, L = [some (.d (encFs fs)), some (.ref b), some (.int x), some (.ref h.length), some (.int u), some (.int u), some (.ref (h.length + 1))] ∧ h' = h ++ [.lst ((ma ++ u :: mb).map W.int), .lst (wR row)] ∧
      Back fs (dlook last) u u row s1 ∧ row ≠ [] ∧ row.length ≤ U.length)
    (fun m L h' ⟨row, w, s1, rest, s2, e1, e2, q1, q2, q3, q4, q5⟩ => by
      subst e1 e2 q5
      have hg : (h ++ [O.lst ((ma ++ u :: mb).map W.int), .lst (wR row)])[h.length + 1]? = some (.lst (wR row)) := get2_1
      have ht : tGc (tVal (eOp2 opEq (eVar 6) (eLst aNil))) [some (.d (encFs fs)), some (.ref b), some (.int x), some (.ref h.length), some (.int w), some (.int u), some (.ref (h.length + 1))] (h ++ [.lst ((ma ++ u :: mb).map W.int), .lst (wR row)]) = .ok row.isEmpty (h ++ [.lst ((ma ++ u :: mb).map W.int), .lst (wR row)]) := by
        refine tGc_ok (h' := (h ++ [.lst ((ma ++ u :: mb).map W.int), .lst (wR row)]) ++ [.lst []]) ?_ List.take_left
        have a1 : ((h ++ [O.lst ((ma ++ u :: mb).map W.int), .lst (wR row)]) ++ [.lst []])[h.length + 1]? = some (.lst ((row.map fun (p : Nat) => (p : Int)).map W.int)) := by
          rw [List.getElem?_append_left (by simp), hg, wR_eq]
        have a2 : ((h ++ [O.lst ((ma ++ u :: mb).map W.int), .lst (wR row)]) ++ [.lst []])[(h ++ [O.lst ((ma ++ u :: mb).map W.int), .lst (wR row)]).length]? = some (.lst []) := by rw [app_get0]; rfl
        have := eq_nil a1 a2
        simp only [tVal_eq, eOp2_eq, eVar_eq, eLst_eq, aNil_eq, R.bind_ok, List.getElem?_cons_succ, List.getElem?_cons_zero, List.length_nil, Nat.zero_le, if_true]
        rw [show opEq = opEqB false from rfl, this]
        simp
      by_cases hd : row = [] ∨ w ≠ u
      · right
        obtain ⟨p, rest', rfl⟩ : ∃ p rest', rest = p :: rest' := by
          cases rest with
          | cons p r => exact ⟨p, r, rfl⟩
          | nil =>
            exfalso
            rcases hd with hd | hd
            · exact q3 hd rfl
            · cases q2; exact hd rfl
        obtain ⟨w', c, t, z1, z2, z3, z4⟩ := q2.front
        refine ⟨h ++ [.lst ((ma ++ u :: mb).map W.int), .lst (wR row)], [some (.d (encFs fs)), some (.ref b), some (.int x), some (.ref h.length), some (.int w'), some (.int u), some (.ref (h.length + 1))], h ++ [.lst ((ma ++ u :: mb).map W.int), .lst (wR (row ++ [p]))], ?_, .inl ?_, rest'.length, by simp, row ++ [p], w', s1 + c, rest', t, rfl, rfl, q1.snoc z1 z2, z3, by simp, by simp at q4 ⊢; omega, rfl⟩
        · rw [tOr_eq, ht, R.bind_ok]
          rcases hd with rfl | hd
          · rfl
          · cases row with
            | nil => rfl
            | cons _ _ => simp [hd]
        · have e9 := app_lst hg (x := W.int (p : Int)) (show (wR row).length < 16777216 by simp at q4 ⊢; omega)
          rw [set2_1, wR_snoc] at e9
          simp only [l1_walked_round, sCons_eq, sExpr_eq, eMetL_eq, eVar_eq, List.getElem?_cons_succ, List.getElem?_cons_zero, R.bind_ok, isLst_of hg, if_true, aCons_eq, aNil_eq, eOp2_eq, opIx_dk (hB _) z1, R.of_some, e9, R.then_ok, Out.seq_nx, sAsg_eq, ix_Fs z2, ix_F1, eCon_eq, put_nm, sNil_eq, List.set_cons_succ, List.set_cons_zero]
      · left
        have h1 : row ≠ [] := fun e => hd (.inl e)
        have h2 : w = u := Decidable.byContradiction fun e => hd (.inr e)
        subst h2
        refine ⟨h ++ [.lst ((ma ++ w :: mb).map W.int), .lst (wR row)], ?_, row, s1, rfl, rfl, q1, h1, by omega⟩
        rw [tOr_eq, ht, R.bind_ok]
        cases row with
        | nil => exact (h1 rfl).elim
        | cons _ _ => simp) 1000000 ps2.length
      (L := [some (.d (encFs fs)), some (.ref b), some (.int x), some (.ref h.length), some (.int u), some (.int u), some (.ref (h.length + 1))]) (h := h ++ [.lst ((ma ++ u :: mb).map W.int), .lst (wR [])])
      ⟨[], u, 0, ps2, s2, rfl, rfl, .nil u, k2.back, fun _ => n2, by simpa using l2, rfl⟩ (by omega)
  refine ⟨row, ?_, n4, u, t, k3.walk, n3, hN u row t k3 n3⟩
  have eT := tuple_row (row := row) (a := h.length + 1) (M := h ++ [.lst ((ma ++ u :: mb).map W.int), .lst (wR row)]) get2_1
  simp only [m_walked_round, fn, b_walked_round, List.length_cons, List.length_nil, if_true, List.map_cons, List.map_nil, List.replicate, List.cons_append, List.nil_append, sCons_eq, sAsg_eq, eLst_eq, aNil_eq, R.bind_ok, R.then_ok, put_nm, List.set_cons_succ, List.set_cons_zero, Out.seq_nx, Nat.zero_le, eVar_eq, List.getElem?_cons_succ, List.getElem?_cons_zero, sWhile_eq, Nat.reduceAdd, Nat.reduceSub, e1]
  have hh : (h ++ [O.lst ((ma ++ u :: mb).map W.int)]).length = h.length + 1 := by simp
  have hh2 : (h ++ [O.lst ((ma ++ u :: mb).map W.int)]) ++ [.lst []] = h ++ [.lst ((ma ++ u :: mb).map W.int), .lst (wR [])] := by simp [wR]
  rw [hh, hh2, e2]
  simp only [sCons_eq, sNil_eq, Out.seq_nx, sRet_eq, eOpN_eq, aCons_eq, aNil_eq, eVar_eq, List.getElem?_cons_succ, List.getElem?_cons_zero, R.bind_ok, eT, R.of_some, R.then_ok, Out.seq_rt, outR_rt, tidy_ok, gc_d_app]
end Sp
end

section
/-! SpF3: clash. -/
namespace Sp
open Mi Sem BF
open PySem (PyData Str)
def relaxN (fs : List Fact) : Nat → St2 → St2
  | 0, s => s
  | n + 1, s => (relax fs (relaxN fs n s)).1
theorem relaxN_rounds (fs : List Fact) (s : St2) : ∀ n, (dlook (relaxN fs n s).1, dlook (relaxN fs n s).2) = rounds fs n (dlook s.1, dlook s.2)
  | 0 => rfl
  | n + 1 => by
    obtain ⟨a, b, _⟩ := relax_pass fs (relaxN fs n s)
    show (dlook (relax fs (relaxN fs n s)).1.1, dlook (relax fs (relaxN fs n s)).1.2) = _
    rw [a, b]
    have ih := relaxN_rounds fs s n
    show _ = ((pass fs (rounds fs n (dlook s.1, dlook s.2)).1 (rounds fs n (dlook s.1, dlook s.2)).2).1, (pass fs (rounds fs n (dlook s.1, dlook s.2)).1 (rounds fs n (dlook s.1, dlook s.2)).2).2.1)
    rw [← ih]
theorem relaxN_fst (fs : List Fact) (s : St2) (n : Nat) : dlook (relaxN fs n s).1 = (rounds fs n (dlook s.1, dlook s.2)).1 := congrArg (·.1) (relaxN_rounds fs s n)
theorem relaxN_snd (fs : List Fact) (s : St2) (n : Nat) : dlook (relaxN fs n s).2 = (rounds fs n (dlook s.1, dlook s.2)).2 := congrArg (·.2) (relaxN_rounds fs s n)
theorem relaxN_keys {fs : List Fact} {V : List Int} (hV : Names fs V) {s : St2} (h : KeyOk2 V s) : ∀ n, KeyOk2 V (relaxN fs n s)
  | 0 => h
  | n + 1 => relaxTo_keys hV (relaxN_keys hV h n) fs.length
/-! ### dicts with 0 for all -/
def zer (U : List Int) : List (Int × Int) := U.map fun u => (u, 0)
theorem zer_keys (U : List Int) : (zer U).map (·.1) = U := by simp [zer, Function.comp_def]
theorem zer_ok {U V : List Int} (h : U.Nodup) (hs : ∀ x ∈ U, x ∈ V) : KeyOk V (zer U) := ⟨by rw [zer_keys]; exact h, by rw [zer_keys]; exact hs⟩
theorem zer_val {U : List Int} {u a : Int} (h : dlook (zer U) u = some a) : a = 0 := by
  induction U with
  | nil => cases h
  | cons x U ih =>
    rw [zer, List.map_cons, dlook_cons] at h
    split at h
    · cases h; rfl
    · exact ih h
theorem dlook_mem {α : Type} {m : List (Int × α)} {u : Int} (h : u ∈ m.map (·.1)) : ∃ a, dlook m u = some a := by
  cases e : dlook m u with
  | some a => exact ⟨a, rfl⟩
  | none => exact (dlook_none.mp e h).elim
theorem merge_nodup {kvs : List (Key × W)} (h : (kvs.map (·.1)).Nodup) : merge [] kvs = kvs := by
  have go : ∀ (kvs acc : List (Key × W)), ((acc ++ kvs).map (·.1)).Nodup → merge acc kvs = acc ++ kvs := by
    intro kvs
    induction kvs with
    | nil => intro acc _; simp [merge]
    | cons p kvs ih =>
      intro acc hn
      have hp : put acc p.1 p.2 = acc ++ [p] := by
        unfold put
        rw [if_neg]
        intro hc
        rw [List.any_eq_true] at hc
        obtain ⟨q, hq, e⟩ := hc
        rw [List.map_append, List.nodup_append] at hn
        exact hn.2.2 q.1 (List.mem_map.mpr ⟨q, hq, rfl⟩) p.1 (by simp) (by simpa using e)
      show merge (put acc p.1 p.2) kvs = _
      rw [hp, ih _ (by simpa using hn)]
      simp
  have := go kvs [] (by simpa using h)
  simpa using this
theorem inl_nodup {U : List Int} (h : U.Nodup) : (U.map fun u => (Sum.inl u : Key)).Nodup := by
  rw [List.Nodup, List.pairwise_map]
  exact List.Pairwise.imp (fun {a b} hab e => hab (by cases e; rfl)) h
/-- dict(..) of a list of pairs -/
theorem dict_zer {U : List Int} {a : Nat} {M : Hh} (hU : U.Nodup) (h : M[a]? = some (.lst (U.map fun u => W.d (.tuple [.int u, .int 0])))) : bDict [.ref a] M = some (.ref M.length, M ++ [encM eI (zer U)]) := by
  have e1 : (U.map fun u => W.d (.tuple [.int u, .int 0])).mapM pairW = some (U.map fun u => ((.inl u : Key), W.int 0)) := by
    clear h hU
    induction U with
    | nil => rfl
    | cons u U ih =>
      rw [List.map_cons, List.mapM_cons, ih]
      rfl
  have e2 : merge [] (U.map fun u => ((.inl u : Key), W.int 0)) = U.map fun u => ((.inl u : Key), W.int 0) := merge_nodup (by simpa [Function.comp_def] using inl_nodup hU)
  simp only [bDict, h, e1, Option.map_some, e2]
  simp [encM, zer, Function.comp_def]
theorem dict_copy {α : Type} {e : α → W} {m : List (Int × α)} {a : Nat} {M : Hh} (h : M[a]? = some (encM e m)) : bDict [.ref a] M = some (.ref M.length, M ++ [encM e m]) := by
  simp [bDict, h, encM]
theorem sorted_dk {α : Type} {e : α → W} {m : List (Int × α)} {a : Nat} {M : Hh} (h : M[a]? = some (encM e m)) (hl : m.length < 64) : bSorted [.ref a] M = some (.ref M.length, M ++ [.lst ((sortI (m.map (·.1))).map W.int)]) := by
  have e1 : ((m.map fun p => ((.inl p.1 : Key), e p.2)).map (·.1)).mapM intK = some (m.map (·.1)) := by
    clear h hl
    induction m with
    | nil => rfl
    | cons p m ih => 
      rw [List.map_cons, List.map_cons, List.mapM_cons, ih]; rfl
  simp only [bSorted, h, encM, e1, Option.map_some]
  simp [hl]
theorem mem_sortI {ns : List Int} {x : Int} : x ∈ sortI ns ↔ x ∈ ns := by simp [sortI]
theorem len_sortI {ns : List Int} : (sortI ns).length = ns.length := by simp [sortI]
theorem len_dk {α : Type} {e : α → W} {m : List (Int × α)} {a : Nat} {M : Hh} (h : M[a]? = some (encM e m)) : bLen [.ref a] M = some (.int m.length, M) := by
  simp [bLen, h, encM]
/-! ### heaps with two dicts behind -/
theorem two_23 {h : Hh} {x y p q : O} (s : St2) : two (h ++ [x, y, p, q]) (h.length + 2) (h.length + 3) s = h ++ [x, y, encM eI s.1, encM eN s.2] := by
  unfold two; rw [app_set, app_set]; rfl
theorem two_45 {h : Hh} {x y z t p q : O} (s : St2) : two (h ++ [x, y, z, t, p, q]) (h.length + 4) (h.length + 5) s = h ++ [x, y, z, t, encM eI s.1, encM eN s.2] := by
  unfold two; rw [app_set, app_set]; rfl
section
variable (fs : List Fact) (h : Hh)
/-- the heap of clash: the names, the pairs, the sums, the last facts -/
def hC (s : St2) : Hh := h ++ [.lst ((unk fs).map W.int), .lst ((unk fs).map fun u => W.d (.tuple [.int u, .int 0])), encM eI s.1, encM eN s.2]
theorem hC_2 (s : St2) : (hC fs h s)[h.length + 2]? = some (encM eI s.1) := by unfold hC; rw [app_get]; rfl
theorem hC_3 (s : St2) : (hC fs h s)[h.length + 3]? = some (encM eN s.2) := by unfold hC; rw [app_get]; rfl
theorem hC_len (s : St2) : (hC fs h s).length = h.length + 4 := by simp [hC]
end
theorem relaxed_hC {fs : List Fact} {h : Hh} (s : St2) (hn : fs.length < 4000000) (hU : (unk fs).length < 64) (hk : KeyOk2 (unk fs) s) :
    m_relaxed [.d (encFs fs), .ref (h.length + 2), .ref (h.length + 3)] (hC fs h s) = .ok (.bool (relax fs s).2) (hC fs h (relax fs s).1) := by
  rw [relaxed_ok (s := s) (hC_2 fs h s) (hC_3 fs h s) (by omega) (unk_ok fs).2.1 (by omega) hn hk]
  unfold hC; rw [two_23]
theorem infeas_of {fs : List Fact} {U : List Int} (hU : Names fs U) {l : Mp} {q : Pi} {n : Nat} (hn : U.length ≤ n + 1) (h : (pass fs (rounds fs n (l, q)).1 (rounds fs n (l, q)).2).2.2 = true) : ¬ Feas fs := fun hF => by
  rw [rounds_stop hU hF hn] at h; cases h
def s0 (fs : List Fact) : St2 := (zer (unk fs), [])
theorem s0_keys (fs : List Fact) : KeyOk2 (unk fs) (s0 fs) := ⟨zer_ok (unk_ok fs).1 (fun _ h => h), KeyOk.nil⟩
/-- where facts have no numbers, each round from 0 makes a sum smaller -/
theorem always {fs : List Fact} (hF : ¬ Feas fs) (n : Nat) : (relax fs (relaxN fs n (s0 fs))).2 = true := by
  cases e : (relax fs (relaxN fs n (s0 fs))).2 with
  | true => rfl
  | false =>
    exfalso
    apply hF
    rw [(relax_pass fs _).2.2] at e
    refine ⟨_, feas_of (unk_ok fs).2.1 (fun u hu => ?_) e⟩
    obtain ⟨a, ha⟩ := dlook_mem (m := zer (unk fs)) (u := u) (by rw [zer_keys]; exact hu)
    obtain ⟨a', ha', _⟩ := rounds_le fs (dlook (s0 fs).1, dlook (s0 fs).2) n u a ha
    exact ⟨a', by rw [relaxN_fst]; exact ha'⟩
/-- the turns of clash -/
theorem clash_loop {fs : List Fact} {h : Hh} (hn : fs.length < 4000000) (hU : (unk fs).length < 64) :
    (∃ x4, forL (Src.rg 0 (unk fs).length).ok (.nm 4) l0_clash (rgItems 0 (unk fs).length) [some (.d (encFs fs)), some (.ref (h.length + 2)), none, some (.ref (h.length + 3)), none, none, none, none] (hC fs h (s0 fs)) =
      .nx [some (.d (encFs fs)), some (.ref (h.length + 2)), none, some (.ref (h.length + 3)), x4, none, none, none] (hC fs h (relaxN fs (unk fs).length (s0 fs))) ∧ ¬ Feas fs) ∨
    ∃ s, forL (Src.rg 0 (unk fs).length).ok (.nm 4) l0_clash (rgItems 0 (unk fs).length) [some (.d (encFs fs)), some (.ref (h.length + 2)), none, some (.ref (h.length + 3)), none, none, none, none] (hC fs h (s0 fs)) = .rt .non (hC fs h s) ∧ Feas fs := by
  by_cases hF : Feas fs
  · right
    rcases forL_numR (ok := (Src.rg 0 (unk fs).length).ok) (g := .nm 4) (body := l0_clash) (n := (unk fs).length)
      (fun n L h' => h' = hC fs h (relaxN fs n (s0 fs)) ∧ (∃ x4, L = [some (.d (encFs fs)), some (.ref (h.length + 2)), none, some (.ref (h.length + 3)), x4, none, none, none]) ∧ ∀ m, m < n → (relax fs (relaxN fs m (s0 fs))).2 = true)
      (fun w h2 => w = .non ∧ ∃ s, h2 = hC fs h s) (fun _ _ _ _ => trivial)
      (fun n L h' hlt ⟨e1, ⟨x4, e2⟩, hall⟩ => by
        subst e1 e2
        refine ⟨[some (.d (encFs fs)), some (.ref (h.length + 2)), none, some (.ref (h.length + 3)), some (.int (n : Int)), none, none, none], rfl, ?_⟩
        have hr := relaxed_hC (h := h) (relaxN fs n (s0 fs)) hn hU (relaxN_keys (unk_ok fs).2.1 (s0_keys fs) n)
        cases hc : (relax fs (relaxN fs n (s0 fs))).2 with
        | true =>
          rw [hc] at hr
          exact .inl ⟨_, _, .inl (by simp [l0_clash, hr]; exact ⟨rfl, rfl⟩), rfl, ⟨_, rfl⟩, fun m hm => by
            by_cases e : m = n
            · subst e; exact hc
            · exact hall m (by omega)⟩
        | false =>
          rw [hc] at hr
          exact .inr ⟨.non, hC fs h (relax fs (relaxN fs n (s0 fs))).1, by simp [l0_clash, hr], rfl, _, rfl⟩)
      (L := [some (.d (encFs fs)), some (.ref (h.length + 2)), none, some (.ref (h.length + 3)), none, none, none, none]) (h := hC fs h (s0 fs)) ⟨rfl, ⟨none, rfl⟩, fun m hm => absurd hm (Nat.not_lt_zero _)⟩ with ⟨L2, h2, e, e1, ⟨x4, e2⟩, hall⟩ | ⟨w, h2, e, rfl, s, rfl⟩
    · exfalso
      have hpos : 0 < (unk fs).length := List.length_pos_of_mem (unk_ok fs).2.2.1
      have h9 := hall ((unk fs).length - 1) (by omega)
      rw [(relax_pass fs _).2.2, relaxN_fst, relaxN_snd] at h9
      exact infeas_of (unk_ok fs).2.1 (show (unk fs).length ≤ (unk fs).length - 1 + 1 by omega) h9 hF
    · exact ⟨s, e, hF⟩
  · left
    obtain ⟨L2, h2, e, rfl, x4, rfl⟩ := forL_num (ok := (Src.rg 0 (unk fs).length).ok) (g := .nm 4) (body := l0_clash) (n := (unk fs).length)
      (fun n L h' => h' = hC fs h (relaxN fs n (s0 fs)) ∧ ∃ x4, L = [some (.d (encFs fs)), some (.ref (h.length + 2)), none, some (.ref (h.length + 3)), x4, none, none, none]) (fun _ _ _ _ => trivial)
      (fun n L h' hlt ⟨e1, x4, e2⟩ => by
        subst e1 e2
        have hr := relaxed_hC (h := h) (relaxN fs n (s0 fs)) hn hU (relaxN_keys (unk_ok fs).2.1 (s0_keys fs) n)
        rw [always hF n] at hr
        exact ⟨_, rfl, [some (.d (encFs fs)), some (.ref (h.length + 2)), none, some (.ref (h.length + 3)), some (.int (n : Int)), none, none, none], hC fs h (relaxN fs (n + 1) (s0 fs)), .inl (by simp [l0_clash, hr]; rfl), rfl, _, rfl⟩)
      (L := [some (.d (encFs fs)), some (.ref (h.length + 2)), none, some (.ref (h.length + 3)), none, none, none, none]) (h := hC fs h (s0 fs)) ⟨rfl, none, rfl⟩
    exact ⟨x4, e, hF⟩
theorem filter_true {α : Type} (xs : List α) : xs.filter (fun _ => true) = xs := List.filter_eq_self.mpr fun _ _ => rfl
theorem zer_comp {fs : List Fact} {h : Hh} (hn : fs.length < 4000000) (hU : (unk fs).length < 64) :
    eComp (iSeq (eCall m_unknowns_of (aCons (eVar 0) aNil))) [2] (.nm 2) tYes (eTup (aCons (eVar 2) (aCons (eCon (.int 0)) aNil))) [some (.d (encFs fs)), none, none, none, none, none, none, none] h =
      .ok (.ref (h.length + 1)) (h ++ [.lst ((unk fs).map W.int), .lst ((unk fs).map fun u => W.d (.tuple [.int u, .int 0]))]) := by
  have e := eComp_pure (i := iSeq (eCall m_unknowns_of (aCons (eVar 0) aNil))) (vs := [2]) (g := .nm 2) (t := tYes) (e := eTup (aCons (eVar 2) (aCons (eCon (.int 0)) aNil))) (L := [some (.d (encFs fs)), none, none, none, none, none, none, none]) (h0 := h) (h := h ++ [.lst ((unk fs).map W.int)])
    (enc := W.int) (s := .ls h.length ((unk fs).map W.int)) (fun _ => true) (fun u => W.d (.tuple [.int u, .int 0])) (unk fs)
    (by simp [unknowns_ok hn]) rfl (fun acc => by simp) (by simp [sizeMax]; omega)
    (fun u hu => ⟨[some (.d (encFs fs)), none, some (.int u), none, none, none, none, none], rfl, fun acc => ⟨rfl, fun _ => by simp [mkTup, allD, sizeMax]⟩⟩)
  rw [e, filter_true]
  simp
theorem clash_tail {fs : List Fact} {h : Hh} {x4 : Option W} (hn : fs.length < 4000000) (hU : (unk fs).length < 64) (hF : ¬ Feas fs) : ∃ row,
    (∃ G, sCons (sAsg (.nm 5) (eOpN bDict (aCons (eVar 1) aNil)))
      (sCons (sAsg (.nm 6) (eOpN bDict (aCons (eVar 3) aNil)))
      (sCons (sExpr (eCall m_relaxed (aCons (eVar 0) (aCons (eVar 5) (aCons (eVar 6) aNil)))))
      (sCons (sAsg (.nm 7) (eComp (iSeq (eOpN bSorted (aCons (eVar 5) aNil))) [2] (.nm 2) (tVal (eOp2 opLt (eOp2 opIx (eVar 5) (eVar 2)) (eOp2 opIx (eVar 1) (eVar 2)))) (eVar 2)))
      (sCons (sRet (eCall m_walked_round (aCons (eVar 0) (aCons (eVar 6) (aCons (eOp2 opIx (eVar 7) (eCon (.int 0))) aNil)))))
      sNil)))) [some (.d (encFs fs)), some (.ref (h.length + 2)), none, some (.ref (h.length + 3)), x4, none, none, none] (hC fs h (relaxN fs (unk fs).length (s0 fs))) = .rt (.d (encR row)) (h ++ G)) ∧
    row.length ≤ (unk fs).length ∧ ∃ u s, Walk fs u u row s ∧ row ≠ [] ∧ s < 0 := by
  have hz := unk_ok fs
  generalize hs : relaxN fs (unk fs).length (s0 fs) = σ
  generalize hs' : relaxN fs ((unk fs).length + 1) (s0 fs) = σ'
  have kσ : KeyOk2 (unk fs) σ := hs ▸ relaxN_keys hz.2.1 (s0_keys fs) _
  have kσ' : KeyOk2 (unk fs) σ' := hs' ▸ relaxN_keys hz.2.1 (s0_keys fs) _
  have st : (relax fs σ).1 = σ' := by rw [← hs, ← hs']; rfl
  have f1 := relaxN_fst fs (s0 fs) (unk fs).length
  have f1' := relaxN_fst fs (s0 fs) ((unk fs).length + 1)
  have f2' := relaxN_snd fs (s0 fs) ((unk fs).length + 1)
  rw [hs] at f1
  rw [hs'] at f1' f2'
  have d0 : dlook (s0 fs).2 = fun _ => none := rfl
  rw [d0] at f1 f1' f2'
  have all : ∀ u ∈ unk fs, ∃ a, dlook σ.1 u = some a := fun u hu => by
    obtain ⟨a, ha⟩ := dlook_mem (m := zer (unk fs)) (u := u) (by rw [zer_keys]; exact hu)
    obtain ⟨a', ha', _⟩ := rounds_le fs (dlook (s0 fs).1, fun _ => none) (unk fs).length u a ha
    exact ⟨a', by rw [f1]; exact ha'⟩
  -- heaps
  obtain ⟨x, y, hxy⟩ : ∃ x y, ∀ s, hC fs h s = h ++ [x, y, encM eI s.1, encM eN s.2] := ⟨_, _, fun s => rfl⟩
  rw [hxy]
  have e5 : bDict [.ref (h.length + 2)] (h ++ [x, y, encM eI σ.1, encM eN σ.2]) = some (.ref (h.length + 4), h ++ [x, y, encM eI σ.1, encM eN σ.2, encM eI σ.1]) := by
    rw [dict_copy (e := eI) (m := σ.1) (by rw [app_get]; rfl)]; simp
  have e6 : bDict [.ref (h.length + 3)] (h ++ [x, y, encM eI σ.1, encM eN σ.2, encM eI σ.1]) = some (.ref (h.length + 5), h ++ [x, y, encM eI σ.1, encM eN σ.2, encM eI σ.1, encM eN σ.2]) := by
    rw [dict_copy (e := eN) (m := σ.2) (by rw [app_get]; rfl)]; simp
  have e7 : m_relaxed [.d (encFs fs), .ref (h.length + 4), .ref (h.length + 5)] (h ++ [x, y, encM eI σ.1, encM eN σ.2, encM eI σ.1, encM eN σ.2]) = .ok (.bool true) (h ++ [x, y, encM eI σ.1, encM eN σ.2, encM eI σ'.1, encM eN σ'.2]) := by
    have hc : (relax fs σ).2 = true := by rw [← hs]; exact always hF _
    rw [relaxed_ok (s := σ) (by rw [app_get]; rfl) (by rw [app_get]; rfl) (by omega) hz.2.1 (by omega) hn kσ, two_45, hc, st]
  have g4 : ∀ G : Hh, (h ++ x :: y :: encM eI σ.1 :: encM eN σ.2 :: encM eI σ'.1 :: encM eN σ'.2 :: G)[h.length + 4]? = some (encM eI σ'.1) := fun G => by rw [app_get]; rfl
  have g2 : ∀ G : Hh, (h ++ x :: y :: encM eI σ.1 :: encM eN σ.2 :: encM eI σ'.1 :: encM eN σ'.2 :: G)[h.length + 2]? = some (encM eI σ.1) := fun G => by rw [app_get]; rfl
  have g5 : ∀ G : Hh, (h ++ x :: y :: encM eI σ.1 :: encM eN σ.2 :: encM eI σ'.1 :: encM eN σ'.2 :: G)[h.length + 5]? = some (encM eN σ'.2) := fun G => by rw [app_get]; rfl
  have l6 : (h ++ [x, y, encM eI σ.1, encM eN σ.2, encM eI σ'.1, encM eN σ'.2]).length = h.length + 6 := by simp
  have e8 := sorted_dk (g4 []) (Nat.lt_of_le_of_lt kσ'.1.len hU)
  rw [l6] at e8
  generalize hso : sortI (σ'.1.map (·.1)) = so at e8
  have so_mem : ∀ u ∈ so, u ∈ σ'.1.map (·.1) := fun u hu => mem_sortI.mp (hso ▸ hu)
  have so_len : so.length < 64 := by
    rw [← hso, len_sortI, List.length_map]; exact Nat.lt_of_le_of_lt kσ'.1.len hU
  let sm : Int → Bool := fun u => decide ((dlook σ'.1 u).getD 0 < (dlook σ.1 u).getD 0)
  have e9 : eComp (iSeq (eOpN bSorted (aCons (eVar 5) aNil))) [2] (.nm 2) (tVal (eOp2 opLt (eOp2 opIx (eVar 5) (eVar 2)) (eOp2 opIx (eVar 1) (eVar 2)))) (eVar 2)
      [some (.d (encFs fs)), some (.ref (h.length + 2)), none, some (.ref (h.length + 3)), x4, some (.ref (h.length + 4)), some (.ref (h.length + 5)), none] (h ++ [x, y, encM eI σ.1, encM eN σ.2, encM eI σ'.1, encM eN σ'.2]) =
      .ok (.ref (h.length + 7)) (h ++ [x, y, encM eI σ.1, encM eN σ.2, encM eI σ'.1, encM eN σ'.2, .lst (so.map W.int), .lst ((so.filter sm).map W.int)]) := by
    rw [eComp_pure (h := h ++ [x, y, encM eI σ.1, encM eN σ.2, encM eI σ'.1, encM eN σ'.2, .lst (so.map W.int)]) (enc := W.int) (s := .ls (h.length + 6) (so.map W.int)) sm W.int so (by
        have q : (h ++ [x, y, encM eI σ.1, encM eN σ.2, encM eI σ'.1, encM eN σ'.2] ++ [.lst (so.map W.int)])[h.length + 6]? = some (O.lst (so.map W.int)) := by rw [← l6, app_get0]; rfl
        simp only [iSeq_eq, eOpN_eq, aCons_eq, eVar_eq, List.getElem?_cons_succ, List.getElem?_cons_zero, R.bind_ok, aNil_eq, e8, R.of_some, q]
        simp) rfl (fun acc => by
        show (h ++ _ ++ _)[h.length + 6]? = _
        rw [List.append_assoc, app_get]; rfl) (by simp [sizeMax]; omega) (fun u hu => ⟨[some (.d (encFs fs)), some (.ref (h.length + 2)), some (.int u), some (.ref (h.length + 3)), x4, some (.ref (h.length + 4)), some (.ref (h.length + 5)), none], rfl, fun acc => ?_⟩)]
    · simp
    · have uk := so_mem u hu
      obtain ⟨a', ha'⟩ := dlook_mem uk
      obtain ⟨a, ha⟩ := all u (kσ'.1.2 u uk)
      rw [List.append_assoc]
      show (tVal _ _ (h ++ x :: y :: encM eI σ.1 :: encM eN σ.2 :: encM eI σ'.1 :: encM eN σ'.2 :: [.lst (so.map W.int), .lst acc]) = .ok _ (h ++ x :: y :: encM eI σ.1 :: encM eN σ.2 :: encM eI σ'.1 :: encM eN σ'.2 :: [.lst (so.map W.int), .lst acc])) ∧ (_ → eVar 2 _ (h ++ x :: y :: encM eI σ.1 :: encM eN σ.2 :: encM eI σ'.1 :: encM eN σ'.2 :: [.lst (so.map W.int), .lst acc]) = .ok _ (h ++ x :: y :: encM eI σ.1 :: encM eN σ.2 :: encM eI σ'.1 :: encM eN σ'.2 :: [.lst (so.map W.int), .lst acc]))
      refine ⟨?_, fun _ => rfl⟩
      simp [opIx_dk (g4 _) ha', opIx_dk (g2 _) ha, sm, ha', ha]
  -- the first that became smaller
  have ne : so.filter sm ≠ [] := by
    have hc : (relax fs σ).2 = true := by rw [← hs]; exact always hF _
    obtain ⟨r1, _, r3⟩ := relax_pass fs σ
    rw [r3] at hc
    obtain ⟨f, hf, a, a', k1, k2, k3⟩ := pass_drop hc (fun f hf => all f.1 (hz.2.1 f hf).1)
    rw [← r1, st] at k2
    have fk : f.1 ∈ so := by
      rw [← hso, mem_sortI]
      rcases Decidable.em (f.1 ∈ σ'.1.map (·.1)) with q | q
      · exact q
      · rw [dlook_none.mpr q] at k2; cases k2
    have : f.1 ∈ so.filter sm := List.mem_filter.mpr ⟨fk, by simp [sm, k1, k2, k3]⟩
    exact List.ne_nil_of_mem this
  obtain ⟨u0, us, hus⟩ := List.exists_cons_of_ne_nil ne
  have u0m : u0 ∈ so.filter sm := by rw [hus]; exact List.mem_cons_self
  obtain ⟨m1, m2⟩ := List.mem_filter.mp u0m
  have u0U : u0 ∈ unk fs := kσ'.1.2 u0 (so_mem u0 m1)
  obtain ⟨a', ha'⟩ := dlook_mem (so_mem u0 m1)
  obtain ⟨a, ha⟩ := all u0 u0U
  have lt : a' < a := by simpa [sm, ha, ha'] using m2
  have inv := inv_rounds (fs := fs) (l0 := dlook (s0 fs).1) ((unk fs).length + 1)
  rw [← f1', ← f2'] at inv
  obtain ⟨row, w1, w5, u, t, w2, w3, w4⟩ := walked_round_ok (fs := fs) (U := unk fs) (last := σ'.2) (x := u0) (h := h ++ [x, y, encM eI σ.1, encM eN σ.2, encM eI σ'.1, encM eN σ'.2, .lst (so.map W.int), .lst ((so.filter sm).map W.int)]) (g5 _) hz.2.1 (by omega) u0U inv.2
    (fun u p hp => by obtain ⟨w, c, a, b, q1, q2, q3, q4⟩ := inv.1 u p hp; exact ⟨w, c, q1⟩)
    (fun v ps s k hl => by
      have := root_free (fs := fs) (U := unk fs) (l0 := dlook (s0 fs).1) (fun u a h => zer_val h) rfl (x := u0) (a := a) (a' := a') (by rw [← f1]; exact ha) (by rw [← f1']; exact ha') lt (v := v) (s := s) (ps := ps) (by rw [← f2']; exact k) hl
      rw [← f2'] at this
      exact this)
  have e10 : opIx (.ref (h.length + 7)) (W.int 0) (h ++ [x, y, encM eI σ.1, encM eN σ.2, encM eI σ'.1, encM eN σ'.2, .lst (so.map W.int), .lst ((so.filter sm).map W.int)]) = some (W.int u0, h ++ [x, y, encM eI σ.1, encM eN σ.2, encM eI σ'.1, encM eN σ'.2, .lst (so.map W.int), .lst ((so.filter sm).map W.int)]) :=
    opIx_lst (n := 0) (ws := (so.filter sm).map W.int) (by rw [app_get]; rfl) (by rw [hus]; rfl)
  refine ⟨row, ⟨[x, y, encM eI σ.1, encM eN σ.2, encM eI σ'.1, encM eN σ'.2, .lst (so.map W.int), .lst ((so.filter sm).map W.int)], ?_⟩, w5, u, t, w2, w3, w4⟩
  simp only [sCons_eq, sAsg_eq, eOpN_eq, aCons_eq, aNil_eq, eVar_eq, List.getElem?_cons_succ, List.getElem?_cons_zero, R.bind_ok, e5, R.of_some, R.then_ok, put_nm, Out.seq_nx, List.set_cons_succ, List.set_cons_zero, e6, sExpr_eq, eCall_eq, e7, e9, sRet_eq, eOp2_eq, eCon_eq, e10, w1, Out.seq_rt]
theorem clash_ok {fs : List Fact} {h : Hh} (hn : fs.length < 4000000) (hU : (unk fs).length < 64) :
    (m_clash [.d (encFs fs)] h = .ok .non h ∧ Feas fs) ∨ ∃ row u s, m_clash [.d (encFs fs)] h = .ok (.d (encR row)) h ∧ Walk fs u u row s ∧ row ≠ [] ∧ s < 0 ∧ row.length ≤ (unk fs).length := by
  have hz := unk_ok fs
  have e0 : ∀ s : St2, (hC fs h s).length = h.length + 4 := hC_len fs h
  have eD := dict_zer (U := unk fs) (a := h.length + 1) (M := h ++ [.lst ((unk fs).map W.int), .lst ((unk fs).map fun u => W.d (.tuple [.int u, .int 0]))]) hz.1 (by rw [app_get]; rfl)
  have e1 : (h ++ [O.lst ((unk fs).map W.int), .lst ((unk fs).map fun u => W.d (.tuple [.int u, .int 0]))]) ++ [encM eI (zer (unk fs))] ++ [.dk []] = hC fs h (s0 fs) := by simp [hC, s0, encM]
  have l1 : (h ++ [O.lst ((unk fs).map W.int), .lst ((unk fs).map fun u => W.d (.tuple [.int u, .int 0]))]).length = h.length + 2 := by simp
  have l2 : ((h ++ [O.lst ((unk fs).map W.int), .lst ((unk fs).map fun u => W.d (.tuple [.int u, .int 0]))]) ++ [encM eI (zer (unk fs))]).length = h.length + 3 := by simp
  have eL := len_dk (hC_2 fs h (s0 fs))
  have zl : (s0 fs).1.length = (unk fs).length := by simp [s0, zer]
  have start : b_clash [some (.d (encFs fs)), none, none, none, none, none, none, none] h = (Out.nx [some (.d (encFs fs)), some (.ref (h.length + 2)), none, some (.ref (h.length + 3)), none, none, none, none] (hC fs h (s0 fs))).seq
    (sCons (sFor (iRange1 (eOpN bLen (aCons (eVar 1) aNil))) (.nm 4) l0_clash)
      (sCons (sAsg (.nm 5) (eOpN bDict (aCons (eVar 1) aNil)))
      (sCons (sAsg (.nm 6) (eOpN bDict (aCons (eVar 3) aNil)))
      (sCons (sExpr (eCall m_relaxed (aCons (eVar 0) (aCons (eVar 5) (aCons (eVar 6) aNil)))))
      (sCons (sAsg (.nm 7) (eComp (iSeq (eOpN bSorted (aCons (eVar 5) aNil))) [2] (.nm 2) (tVal (eOp2 opLt (eOp2 opIx (eVar 5) (eVar 2)) (eOp2 opIx (eVar 1) (eVar 2)))) (eVar 2)))
      (sCons (sRet (eCall m_walked_round (aCons (eVar 0) (aCons (eVar 6) (aCons (eOp2 opIx (eVar 7) (eCon (.int 0))) aNil)))))
      sNil)))))) := by
    rw [b_clash, sCons_eq, sAsg_eq, eOpN_eq, aCons_eq, zer_comp hn hU]
    simp only [R.bind_ok, aNil_eq, eD, R.of_some, R.then_ok, put_nm, Out.seq_nx, sCons_eq, sAsg_eq, eNewK_eq, l1, l2, e1, List.set_cons_succ, List.set_cons_zero]
  have hrg : iRange1 (eOpN bLen (aCons (eVar 1) aNil)) [some (.d (encFs fs)), some (.ref (h.length + 2)), none, some (.ref (h.length + 3)), none, none, none, none] (hC fs h (s0 fs)) = .ok (.rg 0 (unk fs).length) (hC fs h (s0 fs)) := by
    simp only [iRange1_eq, eOpN_eq, aCons_eq, eVar_eq, List.getElem?_cons_succ, List.getElem?_cons_zero, R.bind_ok, aNil_eq, eL, R.of_some, zl]
    rw [if_pos (by omega)]
    simp
  rcases clash_loop (h := h) hn hU with ⟨x4, e, hF⟩ | ⟨s, e, hF⟩
  · right
    obtain ⟨row, w1, w5, u, t, w2, w3, w4⟩ := clash_tail (x4 := x4) (h := h) hn hU hF
    refine ⟨row, u, t, ?_, w2, w3, w4, w5⟩
    simp only [m_clash, fn, List.length_cons, List.length_nil, if_true, List.map_cons, List.map_nil, List.replicate, List.cons_append, List.nil_append, Nat.reduceAdd, Nat.reduceSub]
    rw [start, Out.seq_nx, sCons_eq, sFor_eq, hrg, R.then_ok, items_rg, e]
    obtain ⟨G, w1⟩ := w1
    rw [Out.seq_nx, w1]
    simp only [outR_rt, tidy_ok, gc_d_app]
  · left
    refine ⟨?_, hF⟩
    simp only [m_clash, fn, List.length_cons, List.length_nil, if_true, List.map_cons, List.map_nil, List.replicate, List.cons_append, List.nil_append, Nat.reduceAdd, Nat.reduceSub]
    rw [start, Out.seq_nx, sCons_eq, sFor_eq, hrg, R.then_ok, items_rg, e]
    simp only [Out.seq_rt, outR_rt, tidy_ok, hC, gc_d_app]
end Sp
end

section
/-! SpF4: sums_to, chain. -/
namespace Sp
open Mi Sem BF
open PySem (PyData Str)
theorem two_01 {h : Hh} {p q : O} (s : St2) : two (h ++ [p, q]) h.length (h.length + 1) s = h ++ [encM eI s.1, encM eN s.2] := by
  unfold two; rw [app_set0, app_set]; rfl
def hS (h : Hh) (s : St2) : Hh := h ++ [encM eI s.1, encM eN s.2]
theorem hS_0 (h : Hh) (s : St2) : (hS h s)[h.length]? = some (encM eI s.1) := by unfold hS; rw [app_get0]; rfl
theorem hS_1 (h : Hh) (s : St2) : (hS h s)[h.length + 1]? = some (encM eN s.2) := by unfold hS; rw [app_get]; rfl
def s1 (j : Int) : St2 := ([(j, 0)], [])
theorem s1_fst (j : Int) : dlook (s1 j).1 = upd (fun _ => none) j 0 := by
  funext x
  unfold s1
  rw [dlook_cons]; rfl
theorem names_cons {fs : List Fact} {U : List Int} (h : Names fs U) (j : Int) : Names fs (j :: U) := fun f hf => ⟨List.mem_cons_of_mem _ (h f hf).1, List.mem_cons_of_mem _ (h f hf).2⟩
theorem s1_keys (U : List Int) (j : Int) : KeyOk2 (j :: U) (s1 j) := ⟨⟨by simp [s1], by simp [s1]⟩, KeyOk.nil⟩
theorem sums_to_ok {fs : List Fact} {h : Hh} {j : Int} (hn : fs.length < 4000000) (hU : (unk fs).length < 64) (hF : Feas fs) :
    ∃ n, m_sums_to [.d (encFs fs), .d (.int j)] h = .ok (.mix [.ref h.length, .ref (h.length + 1)]) (hS h (relaxN fs (n + 1) (s1 j))) ∧ (relax fs (relaxN fs n (s1 j))).2 = false := by
  have hV := names_cons (unk_ok fs).2.1 j
  obtain ⟨L2, h2, e, t, n, rfl, rfl, hc⟩ := whileL_nat (t := tVal (eCall m_relaxed (aCons (eVar 0) (aCons (eVar 2) (aCons (eVar 3) aNil))))) (body := l0_sums_to)
    (fun m L h' => ∃ (t : Int) (n : Nat), L = [some (.d (encFs fs)), some (.int j), some (.ref h.length), some (.ref (h.length + 1)), some (.int t)] ∧ h' = hS h (relaxN fs n (s1 j)) ∧ m + n = (unk fs).length)
    (fun L h' => ∃ (t : Int) (n : Nat), L = [some (.d (encFs fs)), some (.int j), some (.ref h.length), some (.ref (h.length + 1)), some (.int t)] ∧ h' = hS h (relaxN fs (n + 1) (s1 j)) ∧ (relax fs (relaxN fs n (s1 j))).2 = false)
    (fun m L h' ⟨t, n, e1, e2, hm⟩ => by
      subst e1 e2
      have hr : m_relaxed [.d (encFs fs), .ref h.length, .ref (h.length + 1)] (hS h (relaxN fs n (s1 j))) = .ok (.bool (relax fs (relaxN fs n (s1 j))).2) (hS h (relaxN fs (n + 1) (s1 j))) := by
        rw [relaxed_ok (s := relaxN fs n (s1 j)) (hS_0 h _) (hS_1 h _) (by omega) hV (by simp; omega) hn (relaxN_keys hV (s1_keys _ j) n)]
        unfold hS; rw [two_01]; rfl
      cases hc : (relax fs (relaxN fs n (s1 j))).2 with
      | false =>
        rw [hc] at hr
        exact .inl ⟨_, by simp [hr], t, n, rfl, rfl, hc⟩
      | true =>
        rw [hc] at hr
        refine .inr ⟨hS h (relaxN fs (n + 1) (s1 j)), [some (.d (encFs fs)), some (.int j), some (.ref h.length), some (.ref (h.length + 1)), some (.int (t + 1))], hS h (relaxN fs (n + 1) (s1 j)), by simp [hr], .inl (by simp [l0_sums_to]), m - 1, ?_, t + 1, n + 1, rfl, rfl, ?_⟩
        all_goals
          have : ¬ (unk fs).length ≤ n := fun hle => by
            rw [(relax_pass fs _).2.2, relaxN_fst, relaxN_snd] at hc
            exact infeas_of hV (show (j :: unk fs).length ≤ n + 1 by simp; omega) hc hF
          omega) 1000000 (unk fs).length (L := [some (.d (encFs fs)), some (.int j), some (.ref h.length), some (.ref (h.length + 1)), some (.int 0)]) (h := hS h (s1 j)) ⟨0, 0, rfl, rfl, by simp⟩ (by omega)
  refine ⟨n, ?_, hc⟩
  have e0 : eDisp [((eVar 1), (eCon (.int 0)))] [some (.d (encFs fs)), some (.int j), none, none, none] h = .ok (.ref h.length) (h ++ [encM eI [(j, 0)]]) := by
    simp [eDisp, evPairs, keyW, merge, put, encM]
  have e1 : (h ++ [encM eI [(j, 0)]]) ++ [.dk []] = hS h (s1 j) := by simp [hS, s1, encM]
  simp only [m_sums_to, fn, b_sums_to, List.length_cons, List.length_nil, if_true, List.map_cons, List.map_nil, List.replicate, List.cons_append, List.nil_append, Nat.reduceAdd, Nat.reduceSub, sCons_eq, sAsg_eq, e0, R.then_ok, put_nm, Out.seq_nx, List.set_cons_succ, List.set_cons_zero, eNewK_eq, eCon_eq, sWhile_eq, e1]
  have l1 : (h ++ [encM eI [(j, 0)]]).length = h.length + 1 := by simp
  rw [l1, e]
  simp [mkTup, allD, sizeMax, gc, W.und, W.unds, hS]
/-- behind the rounds: no sum can become smaller -/
structure Done (fs : List Fact) (j : Int) (l : Mp) (q : Pi) : Prop where
  base : l j = some 0
  least : ∀ {u s : Int} {ps : List Nat}, Walk fs u j ps s → ∃ a, l u = some a ∧ a ≤ s
  back : ∀ u a, l u = some a → u = j ∨ ∃ p, q u = some p
  inv : InvA fs l q
  neg : InvN fs q
theorem stable_walk {fs : List Fact} {l : Mp} {q : Pi} (h : (pass fs l q).2.2 = false) {u v s : Int} {ps : List Nat} (k : Walk fs u v ps s) : ∀ {b : Int}, l v = some b → ∃ a, l u = some a ∧ a ≤ s + b := by
  induction k with
  | nil => intro b hb; exact ⟨b, hb, by omega⟩
  | cons hf _ ih =>
    intro b hb
    obtain ⟨a, ha, e⟩ := ih hb
    obtain ⟨a', ha', e'⟩ := pass_stable h hf ha
    exact ⟨a', ha', by omega⟩
theorem done_of {fs : List Fact} {j : Int} (hF : Feas fs) {n : Nat} (hc : (relax fs (relaxN fs n (s1 j))).2 = false) : Done fs j (dlook (relaxN fs (n + 1) (s1 j)).1) (dlook (relaxN fs (n + 1) (s1 j)).2) := by
  have f1 := relaxN_fst fs (s1 j) (n + 1)
  have f2 := relaxN_snd fs (s1 j) (n + 1)
  have d1 : dlook (s1 j).2 = fun _ => none := rfl
  rw [s1_fst, d1] at f1 f2
  rw [(relax_pass fs _).2.2, relaxN_fst, relaxN_snd, s1_fst, d1] at hc
  have same := passTo_false hc
  have g1 : (rounds fs (n + 1) (upd (fun _ => none) j 0, fun _ => none)).1 = (rounds fs n (upd (fun _ => none) j 0, fun _ => none)).1 := congrArg (·.1) same
  have w0 : InvW fs (upd (fun _ => none) j 0) (upd (fun _ => none) j 0) := fun u a h => ⟨u, [], 0, a, .nil _, h, by omega⟩
  have w1 : InvW fs (upd (fun _ => none) j 0) (rounds fs n (upd (fun _ => none) j 0, fun _ => none)).1 := rounds_inv (s := (upd (fun _ => none) j 0, fun _ => none)) (fun x _ => InvW fs (upd (fun _ => none) j 0) x) (fun x _ p i j c b h1 h2 _ h => invW_upd h1 h2 h) w0 n
  obtain ⟨b, hb, hb0⟩ := rounds_le fs (upd (fun _ => none) j 0, fun _ => none) n j 0 (by show upd (fun _ => none) j 0 j = some 0; exact upd_same)
  have b0 : b = 0 := by
    obtain ⟨v, ps, s, b', k1, k2, k3⟩ := w1 j b hb
    by_cases e : v = j
    · subst e
      rw [upd_same] at k2; cases k2
      have := hF.cycle k1
      omega
    · rw [upd_ne e] at k2; cases k2
  subst b0
  rw [f1, f2]
  have inv := inv_rounds (fs := fs) (l0 := upd (fun _ => none) j 0) (n + 1)
  refine ⟨by rw [g1]; exact hb, fun {u s ps} k => ?_, last_there (n + 1), inv.1, inv.2⟩
  obtain ⟨a, ha, e⟩ := stable_walk hc k hb
  exact ⟨a, by rw [g1]; exact ha, by omega⟩
theorem noround {fs : List Fact} {q : Pi} (hF : Feas fs) (hN : InvN fs q) {u v s : Int} {ps : List Nat} {ns : List Int} (k : BackN fs q u v ps ns s) : ns.Nodup := by
  refine Decidable.byContradiction fun h => ?_
  obtain ⟨a, y, b, c, rfl⟩ := twice h
  obtain ⟨ps1, t1, ps2, t2, -, h2, -, -⟩ := BackN.split (a := a) (b := b ++ y :: c) (by simpa using k)
  obtain ⟨ps3, t3, ps4, t4, h3, -, -, -⟩ := BackN.split (a := y :: b) (b := c) h2
  have e1 := hF.cycle h3.walkN.walk
  have e2 := hN y ps3 t3 h3.back (fun e => by have := h3.walkN.len; simp [e] at this)
  omega
/-- what chain answers: nothing, a chain, a round -/
inductive Answer (fs : List Fact) (i j c : Int) : W → Prop where
  | none : Feas fs → (∀ ps s, Walk fs i j ps s → c < s) → Answer fs i j c .non
  | chain {row : List Nat} {s : Int} : Walk fs i j row s → s ≤ c → row.length < 64 → Answer fs i j c (.d (encR row))
  | round {row : List Nat} {u s : Int} : Walk fs u u row s → row ≠ [] → s < 0 → row.length < 64 → Answer fs i j c (.d (encR row))
theorem chain_loop {fs : List Fact} {h : Hh} {i j c : Int} {last : List (Int × Nat)} {l : Mp} {b : Nat} {x4 x5 x6 : Option W} (hb : h[b]? = some (encM eN last)) (hU : (unk fs).length < 64) (hF : Feas fs) (D : Done fs j l (dlook last)) {a : Int} (ha : l i = some a) :
    ∃ row s, whileL (tVal (eOp2 opNe (eVar 2) (eVar 3))) l0_chain 1000000 [some (.d (encFs fs)), some (.d (encF (i, j, c))), some (.int i), some (.int j), x4, x5, x6, some (.ref b), some (.ref h.length)] (h ++ [.lst []]) =
      .nx [some (.d (encFs fs)), some (.d (encF (i, j, c))), some (.int j), some (.int j), x4, x5, x6, some (.ref b), some (.ref h.length)] (h ++ [.lst (wR row)]) ∧ Walk fs i j row s ∧ s ≤ a ∧ row.length ≤ (unk fs).length := by
  have lb : b < h.length := (List.getElem?_eq_some_iff.mp hb).1
  have hB : ∀ l : Hh, (h ++ l)[b]? = some (encM eN last) := fun l => by rw [List.getElem?_append_left lb]; exact hb
  obtain ⟨L2, h2, e, row, ns, s, rfl, rfl, k, hrl⟩ := whileL_nat (t := tVal (eOp2 opNe (eVar 2) (eVar 3))) (body := l0_chain)
    (fun m L h' => ∃ u row ns s a, L = [some (.d (encFs fs)), some (.d (encF (i, j, c))), some (.int u), some (.int j), x4, x5, x6, some (.ref b), some (.ref h.length)] ∧ h' = h ++ [.lst (wR row)] ∧ BackN fs (dlook last) i u row ns s ∧ l u = some a ∧ m + row.length = (unk fs).length)
    (fun L h' => ∃ row ns s, L = [some (.d (encFs fs)), some (.d (encF (i, j, c))), some (.int j), some (.int j), x4, x5, x6, some (.ref b), some (.ref h.length)] ∧ h' = h ++ [.lst (wR row)] ∧ BackN fs (dlook last) i j row ns s ∧ row.length ≤ (unk fs).length)
    (fun m L h' ⟨u, row, ns, s, a, e1, e2, k, ha, hm⟩ => by
      subst e1 e2
      by_cases hj : u = j
      · subst hj
        exact .inl ⟨_, by simp, row, ns, s, rfl, rfl, k, by omega⟩
      · right
        obtain ⟨p, hp⟩ : ∃ p, dlook last u = some p := by
          rcases D.back u a ha with q | q
          · exact (hj q).elim
          · exact q
        obtain ⟨w, d, a', b', q1, q2, q3, q4⟩ := D.inv u p hp
        have k2 := k.snoc hp q1
        have ml : row.length + 1 ≤ (unk fs).length := by
          have := nodup_le (noround hF D.neg k2) (k2.walkN.mem (unk_ok fs).2.1)
          rw [k2.walkN.len] at this
          simpa using this
        have hg : (h ++ [O.lst (wR row)])[h.length]? = some (.lst (wR row)) := by simp
        refine ⟨h ++ [.lst (wR row)], [some (.d (encFs fs)), some (.d (encF (i, j, c))), some (.int w), some (.int j), x4, x5, x6, some (.ref b), some (.ref h.length)], h ++ [.lst (wR (row ++ [p]))], by simp [hj], .inl ?_, m - 1, by omega, w, row ++ [p], ns ++ [u], s + d, b', rfl, rfl, k2, q3, by simp; omega⟩
        have e9 := app_lst hg (x := W.int (p : Int)) (show (wR row).length < 16777216 by simp; omega)
        rw [app_set0, wR_snoc] at e9
        simp only [List.set_cons_zero] at e9
        simp only [l0_chain, sCons_eq, sExpr_eq, eMetL_eq, eVar_eq, List.getElem?_cons_succ, List.getElem?_cons_zero, R.bind_ok, isLst_of hg, if_true, aCons_eq, aNil_eq, eOp2_eq, opIx_dk (hB _) hp, R.of_some, e9, R.then_ok, Out.seq_nx, sAsg_eq, ix_Fs q1, ix_F1, eCon_eq, put_nm, sNil_eq, List.set_cons_succ, List.set_cons_zero]) 1000000 (unk fs).length
      (L := [some (.d (encFs fs)), some (.d (encF (i, j, c))), some (.int i), some (.int j), x4, x5, x6, some (.ref b), some (.ref h.length)]) (h := h ++ [.lst (wR [])]) ⟨i, [], [], 0, a, rfl, rfl, .nil i, ha, by simp⟩ (by omega)
  refine ⟨row, s, e, k.walkN.walk, ?_, hrl⟩
  obtain ⟨a', ha', e'⟩ := back_le D.inv k.back D.base
  rw [ha] at ha'; cases ha'
  omega
theorem chain_ok {fs : List Fact} {h : Hh} {i j c : Int} (hn : fs.length < 4000000) (hU : (unk fs).length < 64) :
    ∃ w, m_chain [.d (encFs fs), .d (encF (i, j, c))] h = .ok w h ∧ Answer fs i j c w := by
  have start : ∀ x, ∀ rest : SM, m_clash [.d (encFs fs)] h = .ok x h → (sCons (sAsg (.tp [2, 3, 4]) (eVar 1)) (sCons (sAsg (.nm 5) (eCall m_clash (aCons (eVar 0) aNil))) rest)) [some (.d (encFs fs)), some (.d (encF (i, j, c))), none, none, none, none, none, none, none] h =
      rest [some (.d (encFs fs)), some (.d (encF (i, j, c))), some (.int i), some (.int j), some (.int c), some x, none, none, none] h := fun x rest e => by
    simp [setAll, e]
  rcases clash_ok (h := h) hn hU with ⟨e, hF⟩ | ⟨row, u, s, e, k1, k2, k3, k4⟩
  · obtain ⟨n, e2, hc⟩ := sums_to_ok (h := h) (j := j) hn hU hF
    have D := done_of hF hc
    generalize relaxN fs (n + 1) (s1 j) = σ at e2 D
    have g0 := hS_0 h σ
    have g1 := hS_1 h σ
    simp only [m_chain, fn, List.length_cons, List.length_nil, if_true, List.map_cons, List.map_nil, List.replicate, List.cons_append, List.nil_append, Nat.reduceAdd, Nat.reduceSub, b_chain]
    rw [start _ _ e]
    have bad : (∀ a, dlook σ.1 i = some a → c < a) → Answer fs i j c .non := fun hb => .none hF fun ps s k => by
      obtain ⟨a, ha, e⟩ := D.least k
      have := hb a ha
      omega
    cases hi : dlook σ.1 i with
    | none =>
      refine ⟨.non, ?_, bad (fun a ha => by rw [hi] at ha; cases ha)⟩
      simp [opIsN, isN, e2, setAll, W.items, opIn_dk g0, hi]
      simp [hS]
    | some a =>
      by_cases hca : c < a
      · refine ⟨.non, ?_, bad (fun a' ha => by rw [hi] at ha; cases ha; exact hca)⟩
        simp [opIsN, isN, e2, setAll, W.items, opIn_dk g0, hi, opIx_dk g0 hi, hca]
        simp [hS]
      · obtain ⟨row, s, e3, k, hs, hrl⟩ := chain_loop (h := hS h σ) (c := c) (x4 := some (.int c)) (x5 := some .non) (x6 := some (.ref h.length)) g1 hU hF D hi
        refine ⟨.d (encR row), ?_, .chain k (by omega) (by omega)⟩
        have eT := tuple_row (row := row) (a := (hS h σ).length) (M := hS h σ ++ [.lst (wR row)]) (by simp)
        simp [opIsN, isN, e2, setAll, W.items, opIn_dk g0, hi, opIx_dk g0 hi, hca]
        rw [e3]
        simp [eT]
        simp [hS]
  · refine ⟨.d (encR row), ?_, .round k1 k2 k3 (by omega)⟩
    simp only [m_chain, fn, List.length_cons, List.length_nil, if_true, List.map_cons, List.map_nil, List.replicate, List.cons_append, List.nil_append, Nat.reduceAdd, Nat.reduceSub, b_chain]
    rw [start _ _ e]
    simp [opIsN, isN, encR]
end Sp
end

section
/-! SpF5: goes_on, proves, fulfil. -/
namespace BF
theorem Walk.det {fs : List Fact} {u v s : Int} {ps : List Nat} (h : Walk fs u v ps s) : ∀ {v' s' : Int}, Walk fs u v' ps s' → v = v' ∧ s = s' := by
  induction h with
  | nil => intro v' s' k; cases k; exact ⟨rfl, rfl⟩
  | cons hf _ ih =>
    intro v' s' k
    cases k with
    | cons hf' k' =>
      rw [hf] at hf'; cases hf'
      obtain ⟨a, b⟩ := ih k'
      exact ⟨a, by rw [b]⟩
theorem Walk.first {fs : List Fact} {u v s : Int} {p : Nat} {ps : List Nat} (h : Walk fs u v (p :: ps) s) : ∃ w c, fs[p]? = some (u, w, c) := by
  cases h with
  | cons hf _ => exact ⟨_, _, hf⟩
theorem Walk.snoc {fs : List Fact} {u v w c s : Int} {p : Nat} {ps : List Nat} (h : Walk fs u v ps s) (hf : fs[p]? = some (v, w, c)) : Walk fs u w (ps ++ [p]) (s + c) := by
  have := h.append (.cons hf (.nil w))
  simpa [Int.add_comm] using this
theorem Walk.split {fs : List Fact} : ∀ {ps qs : List Nat} {u v s : Int}, Walk fs u v (ps ++ qs) s → ∃ w s1 s2, Walk fs u w ps s1 ∧ Walk fs w v qs s2 ∧ s = s1 + s2
  | [], qs, u, v, s, h => ⟨u, 0, s, .nil u, h, by omega⟩
  | p :: ps, qs, u, v, s, h => by
    cases h with
    | cons hf k =>
      obtain ⟨w, s1, s2, a, b, rfl⟩ := Walk.split k
      exact ⟨w, _, s2, .cons hf a, b, by omega⟩
theorem Walk.last {fs : List Fact} {u v s : Int} {p : Nat} {ps : List Nat} (h : Walk fs u v (ps ++ [p]) s) : ∃ w c, fs[p]? = some (w, v, c) := by
  obtain ⟨w, s1, s2, _, k, _⟩ := Walk.split h
  cases k with
  | cons hf k => cases k; exact ⟨_, _, hf⟩
end BF
namespace Sp
open Mi Sem BF
open PySem (PyData Str)
/-- a row shows a fact, or is a round that cannot be -/
def Prv (fs : List Fact) (i j c : Int) (row : List Nat) : Prop := (∃ s, Walk fs i j row s ∧ s ≤ c) ∨ (row ≠ [] ∧ ∃ u s, Walk fs u u row s ∧ s < 0)
theorem Answer.prv {fs : List Fact} {i j c : Int} {w : W} (h : Answer fs i j c w) : w = .non ∨ ∃ row, w = .d (encR row) ∧ Prv fs i j c row ∧ row.length < 64 := by
  cases h with
  | none => exact .inl rfl
  | chain k hs hl => exact .inr ⟨_, rfl, .inl ⟨_, k, hs⟩, hl⟩
  | round k hn hs hl => exact .inr ⟨_, rfl, .inr ⟨hn, _, _, k, hs⟩, hl⟩
@[simp] theorem len_R (row : List Nat) (M : Hh) : bLen [.d (encR row)] M = some (.int row.length, M) := by simp [bLen, encR, W.items]
@[simp] theorem items_R (row : List Nat) : (W.d (encR row)).items = some (wR row) := by simp [encR, W.items, wR]
theorem ix_R {row : List Nat} {n p : Nat} {M : Hh} (h : row[n]? = some p) : opIx (.d (encR row)) (.d (.int (n : Int))) M = some (.int (p : Int), M) := opIx_tup (by simp [h])
theorem opIx_tupI (xs : List PyData) (i : Int) (M : Hh) : opIx (.d (.tuple xs)) (.d (.int i)) M = (atI (xs.map W.d) i).map fun w => (w, M) := (rfl)
theorem ix_R_last {row : List Nat} {p : Nat} {M : Hh} : opIx (.d (encR (row ++ [p]))) (.d (.int (-1))) M = some (.int (p : Int), M) := by
  have e : atI ((wR row) ++ [W.int (p : Int)]) (-1) = some (W.int (p : Int)) := by
    simp [atI, ixN]
    rw [if_pos (by omega)]
    simp
    rw [List.getElem?_append_right (by simp; omega)]
    simp
    have : (-1 + ((row.length : Int) + 1)).toNat - row.length = 0 := by omega
    rw [this]; rfl
  rw [encR, opIx_tupI, ← wR_d, ← wR_snoc, e]; rfl
theorem eq_unit (xs : List PyData) (neg : Bool) (M : Hh) : opEqB neg (.d (.tuple xs)) (.d (.tuple [])) M = some (.bool (neg != xs.isEmpty), M) := by
  have : min (PyData.tuple xs).depth (PyData.tuple []).depth ≤ roomDeep := by
    refine Nat.le_trans (Nat.min_le_right _ _) ?_
    simp [PyData.depth, PyData.depthAll, roomDeep]
  simp only [opEqB, dataW_d, this, if_true]
  cases xs <;> simp [PyData.eqv, PyData.eqvAll]
theorem goes_on_ok {fs : List Fact} {h : Hh} {row : List Nat} (hl : row.length < 4611686018427387904) (hp : ∀ p ∈ row, p < fs.length) {u : Int} (hu : ∀ p w, row[0]? = some p → fs[p]? = some w → w.1 = u) :
    (∃ v s, m_goes_on [.d (encFs fs), .d (encR row)] h = .ok (.int s) h ∧ Walk fs u v row s) ∨ (m_goes_on [.d (encFs fs), .d (encR row)] h = .ok .non h ∧ ∀ v s, ¬ Walk fs u v row s) := by
  have st : ∀ o, (forL (Src.rg 0 row.length).ok (.nm 3) l0_goes_on (rgItems 0 row.length) [some (.d (encFs fs)), some (.d (encR row)), some (.int 0), none] h = o) → m_goes_on [.d (encFs fs), .d (encR row)] h = tidy h (outR h (o.seq (sCons (sRet (eVar 2)) sNil))) := fun o e => by
    simp [m_goes_on, fn, b_goes_on, List.replicate]
    rw [if_pos (by omega)]
    simp only [R.then_ok, items_rg, e]
  rcases forL_numR (ok := (Src.rg 0 row.length).ok) (g := .nm 3) (body := l0_goes_on) (n := row.length)
    (fun n L h' => h' = h ∧ ∃ x3 v s, L = [some (.d (encFs fs)), some (.d (encR row)), some (.int s), x3] ∧ Walk fs u v (row.take n) s)
    (fun w h2 => w = .non ∧ h2 = h ∧ ∀ v s, ¬ Walk fs u v row s) (fun _ _ _ _ => trivial)
    (fun n L h' hn ⟨e1, x3, v, s, e2, k⟩ => by
      subst e1 e2
      refine ⟨[some (.d (encFs fs)), some (.d (encR row)), some (.int s), some (.int (n : Int))], rfl, ?_⟩
      have hr : row[n]? = some row[n] := by simp [hn]
      generalize hpn : row[n] = p at hr
      have pl : p < fs.length := hp p (List.mem_of_getElem? hr)
      have hf : fs[p]? = some fs[p] := by simp [pl]
      generalize fs[p] = f at hf
      obtain ⟨i, j, c⟩ := f
      have ht : row.take (n + 1) = row.take n ++ [p] := by rw [List.take_succ, hr]; rfl
      by_cases hv : v = i
      · subst hv
        refine .inl ⟨[some (.d (encFs fs)), some (.d (encR row)), some (.int (s + c)), some (.int (n : Int))], h', .inl ?_, rfl, _, j, s + c, rfl, by rw [ht]; exact k.snoc hf⟩
        cases n with
        | zero =>
          have e8 : opIx (.d (encR row)) (.d (.int 0)) h' = some (.int (p : Int), h') := ix_R (n := 0) hr
          simp [l0_goes_on, e8, ix_Fs hf]
        | succ m =>
          have hr' : row[m]? = some row[m] := by
            have : m < row.length := by omega
            simp [this]
          have ht' : row.take (m + 1) = row.take m ++ [row[m]] := by rw [List.take_succ, hr']; rfl
          rw [ht'] at k
          obtain ⟨w, d, hf'⟩ := k.last
          have e8 := ix_R (n := m + 1) (M := h') hr
          generalize hz : ((m + 1 : Nat) : Int) = z at e8 ⊢
          have pos : (0 : Int) < z := by omega
          have e9 : z - 1 = (m : Int) := by omega
          simp [l0_goes_on, pos, e9, e8, ix_R (n := m) hr', ix_Fs hf, ix_Fs hf']
      · have no : ∀ v s, ¬ Walk fs u v row s := fun v' s' k' => by
          have := List.take_append_drop (n + 1) row
          rw [← this, ht, List.append_assoc] at k'
          obtain ⟨w, t1, t2, k1, k2, _⟩ := k'.split
          obtain ⟨e, _⟩ := k.det k1
          subst e
          obtain ⟨w', d, hf'⟩ := Walk.first k2
          rw [hf] at hf'; cases hf'
          exact hv rfl
        refine .inr ⟨.non, h', ?_, rfl, rfl, no⟩
        cases n with
        | zero =>
          exfalso
          rw [List.take_zero] at k
          cases k
          exact hv (hu p _ hr hf).symm
        | succ m =>
          have hr' : row[m]? = some row[m] := by
            have : m < row.length := by omega
            simp [this]
          have ht' : row.take (m + 1) = row.take m ++ [row[m]] := by rw [List.take_succ, hr']; rfl
          rw [ht'] at k
          obtain ⟨w, d, hf'⟩ := k.last
          have e8 := ix_R (n := m + 1) (M := h') hr
          generalize hz : ((m + 1 : Nat) : Int) = z at e8 ⊢
          have pos : (0 : Int) < z := by omega
          have e9 : z - 1 = (m : Int) := by omega
          simp [l0_goes_on, pos, e9, e8, ix_R (n := m) hr', ix_Fs hf, ix_Fs hf', hv])
    (L := [some (.d (encFs fs)), some (.d (encR row)), some (.int 0), none]) (h := h) ⟨rfl, none, u, 0, rfl, .nil u⟩ with ⟨L2, h2, e, rfl, x3, v, s, rfl, k⟩ | ⟨w, h2, e, rfl, rfl, k⟩
  · left
    rw [List.take_length] at k
    exact ⟨v, s, by rw [st _ e]; simp, k⟩
  · right
    exact ⟨by rw [st _ e]; simp, k⟩
/-- no place of a fact -/
def isPl (fs : List Fact) (x : PyData) : Prop := ∃ p : Nat, x = .int (p : Int) ∧ p < fs.length
theorem row_of {fs : List Fact} : ∀ {xs : List PyData}, (∀ x ∈ xs, isPl fs x) → ∃ row : List Nat, xs = (row.map fun (p : Nat) => PyData.int (p : Int)) ∧ ∀ p ∈ row, p < fs.length
  | [], _ => ⟨[], rfl, fun p h => by cases h⟩
  | x :: xs, h => by
    obtain ⟨p, rfl, hp⟩ := h x List.mem_cons_self
    obtain ⟨row, rfl, hr⟩ := row_of (fs := fs) (xs := xs) (fun y hy => h y (List.mem_cons_of_mem _ hy))
    exact ⟨p :: row, rfl, fun q hq => by
      rcases List.mem_cons.mp hq with rfl | hq
      · exact hp
      · exact hr q hq⟩
/-- plain data: no dict -/
def plain : PyData → Bool
  | .dict _ => false
  | _ => true
theorem isPl_int {fs : List Fact} {n : Int} : isPl fs (.int n) ↔ 0 ≤ n ∧ n < fs.length := by
  constructor
  · rintro ⟨p, e, hp⟩; cases e; omega
  · rintro ⟨a, b⟩; exact ⟨n.toNat, by rw [Int.toNat_of_nonneg a], by omega⟩
/-- a test of places, as a loop -/
theorem pl_loop {fs : List Fact} {xs : List PyData} {h : Hh} {body : SM} {i : Nat} {X : Option W → Loc} (hX : ∀ o w, (Tg.nm i).put w (X o) = some (X (some w))) (hx : ∀ x ∈ xs, plain x = true)
    (hb : ∀ x, plain x = true → (isPl fs x → body (X (some (.d x))) h = .nx (X (some (.d x))) h) ∧ (¬ isPl fs x → body (X (some (.d x))) h = .rt (.bool false) h)) (x0 : Option W) :
    ((∃ x3, forL (Src.tp (xs.map W.d)).ok (.nm i) body (xs.map W.d) (X x0) h = .nx (X x3) h) ∧ ∀ x ∈ xs, isPl fs x) ∨ (forL (Src.tp (xs.map W.d)).ok (.nm i) body (xs.map W.d) (X x0) h = .rt (.bool false) h ∧ ¬ ∀ x ∈ xs, isPl fs x) := by
  rcases forL_pre (ok := (Src.tp (xs.map W.d)).ok) (g := .nm i) (body := body) (enc := W.d) (xs := xs)
    (fun pre L h' => h' = h ∧ (∃ x3, L = X x3) ∧ ∀ x ∈ pre, isPl fs x) (fun w h2 => w = .bool false ∧ h2 = h ∧ ¬ ∀ x ∈ xs, isPl fs x) (fun _ _ _ _ => trivial)
    (fun pre x post L h' e ⟨e1, ⟨x3, e2⟩, hpre⟩ => by
      subst e1 e2
      refine ⟨X (some (.d x)), hX _ _, ?_⟩
      have hm : x ∈ xs := by rw [e]; simp
      obtain ⟨b1, b2⟩ := hb x (hx x hm)
      by_cases hi : isPl fs x
      · refine .inl ⟨_, _, .inl (b1 hi), rfl, ⟨_, rfl⟩, fun y hy => ?_⟩
        rcases List.mem_append.mp hy with hy | hy
        · exact hpre y hy
        · simp at hy; rw [hy]; exact hi
      · exact .inr ⟨_, _, b2 hi, rfl, rfl, fun z => hi (z x hm)⟩)
    (L := X x0) (h := h) ⟨rfl, ⟨x0, rfl⟩, fun x hx => by cases hx⟩ with ⟨L2, h2, e, rfl, ⟨x3, rfl⟩, k⟩ | ⟨w, h2, e, rfl, rfl, k⟩
  · exact .inl ⟨⟨x3, e⟩, k⟩
  · exact .inr ⟨e, k⟩
theorem tyW_R (row : List Nat) (M : Hh) : tyW M (.d (encR row)) = some "tuple" := (rfl)
/-- the answer for a thing -/
def Tells (fs : List Fact) (i j c : Int) (h : Hh) (w : W) (b : Bool) : Prop := b = true ↔ ∃ row : List Nat, w = .d (encR row) ∧ (∀ p ∈ row, p < fs.length) ∧ Prv fs i j c row
/-- a thing: no tuple, or one of plain data -/
def Thing (h : Hh) (w : W) : Prop := (∃ t, tyW h w = some t ∧ t ≠ "tuple") ∨ ∃ xs, w = .d (.tuple xs) ∧ ∀ x ∈ xs, plain x = true
theorem encR_inj {a b : List Nat} (h : W.d (encR a) = W.d (encR b)) : a = b := by
  unfold encR at h
  simp only [W.d.injEq, PyData.tuple.injEq] at h
  have : Function.Injective fun (p : Nat) => PyData.int (p : Int) := fun x y e => by simp at e; omega
  exact (List.map_inj_right (fun x y e => this e)).mp h
theorem tells_not {fs : List Fact} {i j c : Int} {h : Hh} {w : W} (hw : ∀ row : List Nat, w = .d (encR row) → ¬ ∀ p ∈ row, p < fs.length) : Tells fs i j c h w false := by
  unfold Tells
  simp
  rintro row e hp
  exact (hw row e hp).elim
theorem proves_ok {fs : List Fact} {i j c : Int} {h : Hh} {w : W} (hl : ∀ xs, w = .d (.tuple xs) → xs.length < 4611686018427387904) (hw : Thing h w) :
    ∃ b, m_proves [.d (encFs fs), .d (encF (i, j, c)), w] h = .ok (.bool b) h ∧ Tells fs i j c h w b := by
  rcases hw with ⟨t, ht, hne⟩ | ⟨xs, rfl, hx⟩
  · refine ⟨false, ?_, tells_not (fun row e => ?_)⟩
    · simp [m_proves, fn, b_proves, isI, ht, hne]
    · subst e
      simp [encR, tyW] at ht
      exact (hne ht.symm).elim
  · rcases pl_loop (fs := fs) (h := h) (body := l0_proves) (i := 3) (X := fun o => [some (.d (encFs fs)), some (.d (encF (i, j, c))), some (.d (.tuple xs)), o, none, none, none, none, none, none]) (fun _ _ => rfl) hx (fun x px => by
        constructor
        · rintro ⟨p, rfl, hp⟩
          simp [l0_proves, is_integer_ok (h := h) (w := W.int (p : Int)) (t := "int") rfl, hp]
        · intro hn
          cases x with
          | int n =>
            rw [isPl_int] at hn
            simp [l0_proves, is_integer_ok (h := h) (w := W.int n) (t := "int") rfl]
            by_cases h0 : 0 ≤ n
            · have : ¬ n < (fs.length : Int) := fun z => hn ⟨h0, z⟩
              simp [h0, this]
            · simp [h0]
          | none => simp [l0_proves, is_integer_ok (h := h) (w := W.d .none) (t := "NoneType") rfl]
          | bool b => simp [l0_proves, is_integer_ok (h := h) (w := W.d (.bool b)) (t := "bool") rfl]
          | str s => simp [l0_proves, is_integer_ok (h := h) (w := W.d (.str s)) (t := "str") rfl]
          | list s => simp [l0_proves, is_integer_ok (h := h) (w := W.d (.list s)) (t := "list") rfl]
          | tuple s => simp [l0_proves, is_integer_ok (h := h) (w := W.d (.tuple s)) (t := "tuple") rfl]
          | dict s => cases px) none with ⟨⟨x3, e⟩, hall⟩ | ⟨e, hnot⟩
    · obtain ⟨row, rfl, hr⟩ := row_of hall
      have tell : ∀ b, (b = true ↔ Prv fs i j c row) → Tells fs i j c h (.d (encR row)) b := fun b hb => by
        unfold Tells
        rw [hb]
        exact ⟨fun q => ⟨row, rfl, hr, q⟩, fun ⟨row', e', _, q⟩ => by rw [encR_inj e']; exact q⟩
      have hh : (W.d (encR row)).items = some (wR row) := items_R row
      cases row with
      | nil =>
        refine ⟨decide (i = j ∧ 0 ≤ c), ?_, tell _ ?_⟩
        · simp [m_proves, fn, b_proves, isI, tyW, List.replicate]
          simp only [List.map_nil] at e
          rw [e]
          simp [eq_unit, setAll, mkTup, allD]
          by_cases hij : i = j <;> simp [hij]
        · simp only [decide_eq_true_eq]
          constructor
          · rintro ⟨rfl, hc⟩; exact .inl ⟨0, .nil _, hc⟩
          · rintro (⟨s, k, hs⟩ | ⟨hn, _⟩)
            · cases k; exact ⟨rfl, hs⟩
            · exact (hn rfl).elim
      | cons p ps =>
        have hp : p < fs.length := hr p List.mem_cons_self
        have hf : fs[p]? = some fs[p] := by simp [hp]
        generalize fs[p] = f at hf
        obtain ⟨u, u', d⟩ := f
        have hl' := hl _ rfl
        rw [List.length_map] at hl'
        rw [← wR_d] at e
        change forL _ _ _ _ [_, _, some (.d (encR (p :: ps))), _, _, _, _, _, _, _] h = .nx [_, _, some (.d (encR (p :: ps))), _, _, _, _, _, _, _] h at e
        change ∃ b, m_proves [_, _, .d (encR (p :: ps))] h = _ ∧ Tells fs i j c h (.d (encR (p :: ps))) b
        have st : ∀ o, m_goes_on [.d (encFs fs), .d (encR (p :: ps))] h = .ok o h → m_proves [.d (encFs fs), .d (encF (i, j, c)), .d (encR (p :: ps))] h = tidy h (outR h (
            (sCons (sIf (tVal (eOp2 (opIsN false) (eVar 7) (eCon .non)))
              (sCons (sRet (eCon (.bool false)))
              sNil)
              sNil)
              (sCons (sAsg (.nm 8) (eOp2 opIx (eOp2 opIx (eVar 0) (eOp2 opIx (eVar 2) (eCon (.int 0)))) (eCon (.int 0))))
              (sCons (sAsg (.nm 9) (eOp2 opIx (eOp2 opIx (eVar 0) (eOp2 opIx (eVar 2) (eOp1 opNeg (eCon (.int 1))))) (eCon (.int 1))))
              (sCons (sRet (eOr (eAnd (eOp2 opEq (eVar 8) (eVar 4)) (eAnd (eOp2 opEq (eVar 9) (eVar 5)) (eOp2 opLe (eVar 7) (eVar 6)))) (eAnd (eOp2 opEq (eVar 8) (eVar 9)) (eOp2 opLt (eVar 7) (eCon (.int 0))))))
              sNil)))) [some (.d (encFs fs)), some (.d (encF (i, j, c))), some (.d (encR (p :: ps))), x3, some (.int i), some (.int j), some (.int c), some o, none, none] h)) := fun o eo => by
          have eu : ∀ M, opEqB false (.d (encR (p :: ps))) (.d (.tuple [])) M = some (.bool false, M) := fun M => eq_unit _ _ M
          simp only [m_proves, fn, b_proves, List.length_cons, List.length_nil, if_true, List.map_cons, List.map_nil, List.replicate, List.cons_append, List.nil_append, Nat.reduceAdd, Nat.reduceSub]
          simp [isI, tyW_R, e, setAll, mkTup, allD, eu, eo]
        have ix0 : opIx (.d (encR (p :: ps))) (.d (.int 0)) h = some (.int (p : Int), h) := ix_R (n := 0) rfl
        rcases goes_on_ok (h := h) hl' hr (u := u) (fun p' w e1 e2 => by cases e1; rw [hf] at e2; cases e2; rfl) with ⟨v, s, e2, k⟩ | ⟨e2, k⟩
        · refine ⟨decide ((u = i ∧ v = j ∧ s ≤ c) ∨ (u = v ∧ s < 0)), ?_, tell _ ?_⟩
          · obtain ⟨row', q, hq⟩ : ∃ row' q, p :: ps = row' ++ [q] := ⟨(p :: ps).dropLast, (p :: ps).getLast (by simp), (List.dropLast_concat_getLast (by simp)).symm⟩
            have k9 := k
            rw [hq] at k9
            obtain ⟨w, d', hf'⟩ := k9.last
            have ixl : opIx (.d (encR (p :: ps))) (.d (.int (-1))) h = some (.int (q : Int), h) := by rw [hq]; exact ix_R_last
            rw [st _ e2]
            simp [opIsN, isN, ix0, ixl, ix_Fs hf, ix_Fs hf']
            generalize hg1 : (u == i) = g1
            generalize hg2 : (v == j) = g2
            generalize hg3 : (u == v) = g3
            have q1 : (u = i) = (g1 = true) := by rw [← hg1]; simp
            have q2 : (v = j) = (g2 = true) := by rw [← hg2]; simp
            have q3 : (u = v) = (g3 = true) := by rw [← hg3]; simp
            simp only [q1, q2, q3]
            cases g1 <;> cases g2 <;> cases g3 <;> by_cases h4 : s ≤ c <;> simp [h4]
          · simp only [decide_eq_true_eq]
            constructor
            · rintro (⟨rfl, rfl, hs⟩ | ⟨rfl, hs⟩)
              · exact .inl ⟨s, k, hs⟩
              · exact .inr ⟨by simp, u, s, k, hs⟩
            · rintro (⟨s', k', hs⟩ | ⟨_, u2, s', k', hs⟩)
              · obtain ⟨w, d', hf'⟩ := k'.first
                rw [hf] at hf'; cases hf'
                obtain ⟨rfl, rfl⟩ := k.det k'
                exact .inl ⟨rfl, rfl, hs⟩
              · obtain ⟨w, d', hf'⟩ := k'.first
                rw [hf] at hf'; cases hf'
                obtain ⟨rfl, rfl⟩ := k.det k'
                exact .inr ⟨rfl, hs⟩
        · refine ⟨false, ?_, tell _ ⟨fun e => (Bool.false_ne_true e).elim, ?_⟩⟩
          · rw [st _ e2]
            simp [opIsN, isN]
          · rintro (⟨s', k', hs⟩ | ⟨_, u2, s', k', hs⟩)
            · obtain ⟨w, d', hf'⟩ := k'.first
              rw [hf] at hf'; cases hf'
              exact (k _ _ k').elim
            · obtain ⟨w, d', hf'⟩ := k'.first
              rw [hf] at hf'; cases hf'
              exact (k _ _ k').elim
    · refine ⟨false, ?_, tells_not (fun row e hp => hnot fun x hx => ?_)⟩
      · simp [m_proves, fn, b_proves, isI, tyW, List.replicate]
        rw [show (Src.tp (xs.map W.d)).ok = (Src.tp (xs.map W.d)).ok from rfl, e]; simp
      · simp only [W.d.injEq, encR, PyData.tuple.injEq] at e
        subst e
        obtain ⟨p, hp', rfl⟩ := List.mem_map.mp hx
        exact ⟨p, rfl, hp p hp'⟩
/-- what is shown holds -/
theorem Prv.sat {fs : List Fact} {i j c : Int} {row : List Nat} (h : Prv fs i j c row) {x : Int → Int} (hx : ∀ f ∈ fs, Sat x f) : Sat x (i, j, c) := by
  rcases h with ⟨s, k, hs⟩ | ⟨_, u, s, k, hs⟩
  · have := k.sat hx
    unfold Sat; simp only; omega
  · have := k.sat hx
    omega
end Sp
end

section
/-! SpF6: fulfil. -/
namespace Sp
open Mi Sem BF
open PySem (PyData Str)
def encV (vs : List Int) : PyData := .tuple (vs.map .int)
/-- the number of a name -/
def val (vs : List Int) (u : Int) : Int := vs.getD u.toNat 0
def Fits (m : Nat) (f : Fact) : Prop := (0 ≤ f.1 ∧ f.1 < m) ∧ 0 ≤ f.2.1 ∧ f.2.1 < m
theorem ix_V {vs : List Int} {u : Int} {M : Hh} (h : 0 ≤ u ∧ u < vs.length) : opIx (.d (encV vs)) (.d (.int u)) M = some (.int (val vs u), M) := by
  have e : u = ((u.toNat : Nat) : Int) := by omega
  have := opIx_tup (xs := vs.map PyData.int) (n := u.toNat) (x := .int (val vs u)) (M := M) (by
    have : u.toNat < vs.length := by omega
    simp [this, val])
  rw [← e] at this
  exact this
theorem fulfil_ok {vs : List Int} {fs : List Fact} {h : Hh} (hr : ∀ f ∈ fs, Fits vs.length f) (hl : fs.length ≤ 16777216) : ∃ b, m_fulfil [.d (encV vs), .d (encFs fs)] h = .ok (.bool b) h ∧ (b = true ↔ ∀ f ∈ fs, Sat (val vs) f) := by
  let p : Fact → Bool := fun f => decide (val vs f.2.1 + f.2.2 < val vs f.1)
  have e := eComp_pure (i := iSeq (eVar 1)) (vs := [2]) (g := .nm 2) (t := tVal (eOp2 opGt (eOp2 opIx (eVar 0) (eOp2 opIx (eVar 2) (eCon (.int 0)))) (eOp2 opAdd (eOp2 opIx (eVar 0) (eOp2 opIx (eVar 2) (eCon (.int 1)))) (eOp2 opIx (eVar 2) (eCon (.int 2))))))
    (e := eVar 2) (L := [some (.d (encV vs)), some (.d (encFs fs)), none]) (h0 := h) (h := h) (enc := fun f => W.d (encF f)) (s := .tp (fs.map fun f => W.d (encF f))) p (fun f => W.d (encF f)) fs (by simp) rfl (fun _ => trivial) (by simpa [sizeMax] using hl)
    (fun f hf => ⟨[some (.d (encV vs)), some (.d (encFs fs)), some (.d (encF f))], rfl, fun acc => by
      obtain ⟨h1, h2⟩ := hr f hf
      exact ⟨by simp [ix_V h1, ix_V h2, p], fun _ => rfl⟩⟩)
  refine ⟨(fs.filter p).length == 0, ?_, ?_⟩
  · have eg : eGc (eOpN bLen (aCons (eComp (iSeq (eVar 1)) [2] (.nm 2) (tVal (eOp2 opGt (eOp2 opIx (eVar 0) (eOp2 opIx (eVar 2) (eCon (.int 0)))) (eOp2 opAdd (eOp2 opIx (eVar 0) (eOp2 opIx (eVar 2) (eCon (.int 1)))) (eOp2 opIx (eVar 2) (eCon (.int 2)))))) (eVar 2)) aNil))
        [some (.d (encV vs)), some (.d (encFs fs)), none] h = .ok (.int (fs.filter p).length) h := by
      refine eGc_ok (h' := h ++ [.lst ((fs.filter p).map fun f => W.d (encF f))]) ?_ (by simp) List.take_left
      rw [eOpN_eq, aCons_eq, e]
      simp [bLen]
    simp only [m_fulfil, fn, b_fulfil, List.length_cons, List.length_nil, if_true, List.map_cons, List.map_nil, List.replicate, List.cons_append, List.nil_append, Nat.reduceAdd, Nat.reduceSub, sCons_eq, sRet_eq, eOp2_eq, eg]
    simp
    generalize (fs.filter p).length = n
    rw [Bool.eq_iff_iff, beq_iff_eq, beq_iff_eq]; omega
  · rw [beq_iff_eq, List.length_eq_zero_iff, List.filter_eq_nil_iff]
    unfold Sat
    constructor
    · intro q f hf
      have := q f hf
      simp [p] at this
      exact this
    · intro q f hf
      have := q f hf
      simp [p]
      exact this
end Sp
end

section
/-! SpD: what each law draws from its script. -/
namespace Sp
open Mi Sem BF
open PySem (PyData Str)
def encL (ns : List Int) : PyData := .list (ns.map .int)
theorem cell_ok {ns : List Int} {k : Nat} {h : Hh} : ∃ c, m__law_cell [.d (encL ns), .d (.int (k : Int))] h = .ok (.int c) h := by
  have e1 : bLen [.d (encL ns)] h = some (.int ns.length, h) := by simp [bLen, encL]
  by_cases hk : k < ns.length
  · refine ⟨ns[k], ?_⟩
    have e2 : opIx (.d (encL ns)) (.d (.int (k : Int))) h = some (.int ns[k], h) := opIx_rol (by simp [hk])
    simp [m__law_cell, fn, b__law_cell, e1, e2, hk]
  · refine ⟨0, ?_⟩
    simp [m__law_cell, fn, b__law_cell, e1, hk]
theorem setlast {h : Hh} {x y : O} : (h ++ [x]).set h.length y = h ++ [y] := by rw [app_set0]; rfl
def sD (ns : List Int) (h : Hh) (x4 x5 x6 x7 : Option W) : Loc := [some (.d (encL ns)), some (.int 0), some (.int 63), some (.ref h.length), x4, x5, x6, x7]
def hD (h : Hh) (ds : List Int) : Hh := h ++ [.lst (ds.map W.int)]
theorem app_hD {h : Hh} {ds : List Int} {x : Int} (hl : ds.length < 16777216) : mAppend [.ref h.length, .d (.int x)] (hD h ds) = some (.non, hD h (ds ++ [x])) := by
  have hg : (hD h ds)[h.length]? = some (.lst (ds.map W.int)) := by simp [hD]
  rw [app_int hg hl]; simp [hD]
theorem isLst_hD {h : Hh} {ds : List Int} : isLst (hD h ds) (.ref h.length) = true := by simp [isLst, hD]
theorem fdiv_ok {i j : Int} {M : Hh} (hj : 0 < j) (hl : j < 4294967296) : opFloorDiv (.d (.int i)) (.d (.int j)) M = some (.int (i / j), M) := by
  have : j.natAbs.log2 < 9000 := by
    have h1 : j.natAbs.log2 < 32 := by
      rw [Nat.log2_lt (by omega)]
      have : (2 : Nat) ^ 32 = 4294967296 := rfl
      omega
    omega
  simp [opFloorDiv, hj, this]
theorem mod_ok {i j : Int} {M : Hh} (hj : 0 < j) : opMod (.d (.int i)) (.d (.int j)) M = some (.int (i % j), M) := by simp [opMod, hj]
@[simp] theorem bInt_ok (i : Int) (M : Hh) : bInt [.d (.int i)] M = some (.int i, M) := (rfl)
theorem mul_ok {i j : Int} {M : Hh} (hj : -4294967296 < j ∧ j < 4294967296) : opMul (.d (.int i)) (.d (.int j)) M = some (.int (i * j), M) := by
  unfold opMul
  simp only
  rw [if_pos (.inr (by omega))]
theorem mul_ok' {i j : Int} {M : Hh} (hj : -4294967296 < i ∧ i < 4294967296) : opMul (.d (.int i)) (.d (.int j)) M = some (.int (i * j), M) := by
  unfold opMul
  simp only
  rw [if_pos (.inl (by omega))]
theorem l1_ok {ns ds : List Int} {h : Hh} {x4 x6 x7 : Option W} {c : Int} (hl : ds.length < 16000000) : ∃ ds' c' y6, forL (Src.rg 0 60).ok (.nm 6) l1__law_digits (rgItems 0 60) (sD ns h x4 (some (.int c)) x6 x7) (hD h ds) = .nx (sD ns h x4 (some (.int c')) y6 x7) (hD h ds') ∧ ds'.length ≤ ds.length + 60 := by
  obtain ⟨L2, h2, e, ds', c', y6, rfl, rfl, hle⟩ := forL_num (ok := (Src.rg 0 60).ok) (g := .nm 6) (body := l1__law_digits) (n := 60)
    (fun n L h' => ∃ ds' c' , ∃ y6, L = sD ns h x4 (some (.int c')) y6 x7 ∧ h' = hD h ds' ∧ ds'.length ≤ ds.length + n) (fun _ _ _ _ => trivial)
    (fun n L h' hn ⟨ds', c', y6, e1, e2, hle⟩ => by
      subst e1 e2
      refine ⟨sD ns h x4 (some (.int c')) (some (.int (n : Int))) x7, rfl, ?_⟩
      by_cases hc : 0 < c'
      · exact ⟨sD ns h x4 (some (.int (c' / 1000))) (some (.int (n : Int))) x7, hD h (ds' ++ [c' % 1000]), .inl (by
          simp [l1__law_digits, sD, hc, isLst_hD, mod_ok (show (0 : Int) < 1000 by omega), fdiv_ok (show (0 : Int) < 1000 by omega) (by omega), app_hD (show ds'.length < 16777216 by omega)]), _, _, _, rfl, rfl, by simp; omega⟩
      · exact ⟨sD ns h x4 (some (.int c')) (some (.int (n : Int))) x7, hD h ds', .inl (by simp [l1__law_digits, sD, hc]), _, _, _, rfl, rfl, by omega⟩)
    (L := sD ns h x4 (some (.int c)) x6 x7) (h := hD h ds) ⟨_, _, _, rfl, rfl, by omega⟩
  exact ⟨ds', c', y6, e, hle⟩
theorem l2_ok {ns ds : List Int} {h : Hh} {x4 x5 x6 : Option W} {c : Int} (hl : ds.length < 16000000) : ∃ ds' c' y6, forL (Src.rg 0 12).ok (.nm 6) l2__law_digits (rgItems 0 12) (sD ns h x4 x5 x6 (some (.int c))) (hD h ds) = .nx (sD ns h x4 x5 y6 (some (.int c'))) (hD h ds') ∧ ds'.length ≤ ds.length + 12 := by
  obtain ⟨L2, h2, e, ds', c', y6, rfl, rfl, hle⟩ := forL_num (ok := (Src.rg 0 12).ok) (g := .nm 6) (body := l2__law_digits) (n := 12)
    (fun n L h' => ∃ ds' c' , ∃ y6, L = sD ns h x4 x5 y6 (some (.int c')) ∧ h' = hD h ds' ∧ ds'.length ≤ ds.length + n) (fun _ _ _ _ => trivial)
    (fun n L h' hn ⟨ds', c', y6, e1, e2, hle⟩ => by
      subst e1 e2
      refine ⟨sD ns h x4 x5 (some (.int (n : Int))) (some (.int c')), rfl, ?_⟩
      exact ⟨sD ns h x4 x5 (some (.int (n : Int))) (some (.int ((c' * 16807 + 7 * (n : Int) + 1) % 2147483647))), hD h (ds' ++ [((c' * 16807 + 7 * (n : Int) + 1) % 2147483647) / 997 % 1000]), .inl (by
          simp [l2__law_digits, sD, isLst_hD, mod_ok (show (0 : Int) < 1000 by omega), mod_ok (show (0 : Int) < 2147483647 by omega), fdiv_ok (show (0 : Int) < 997 by omega) (by omega), mul_ok (show -4294967296 < (16807 : Int) ∧ (16807 : Int) < 4294967296 by omega), mul_ok' (show -4294967296 < (7 : Int) ∧ (7 : Int) < 4294967296 by omega), app_hD (show ds'.length < 16777216 by omega)]), _, _, _, rfl, rfl, by simp; omega⟩)
    (L := sD ns h x4 x5 x6 (some (.int c))) (h := hD h ds) ⟨_, _, _, rfl, rfl, by omega⟩
  exact ⟨ds', c', y6, e, hle⟩
theorem pow_ok {M : Hh} : opPow (.d (.int 10)) (.d (.int 18)) M = some (.int 1000000000000000000, M) := by
  unfold opPow
  simp
theorem digits_ok {ns : List Int} {h : Hh} : ∃ ds : List Int, m__law_digits [.d (encL ns), .d (.int 0), .d (.int 63)] h = .ok (.ref h.length) (hD h ds) := by
  obtain ⟨L2, h2, e, ds, x4, x5, x6, x7, rfl, rfl, hle⟩ := forL_num (ok := (Src.rg 0 63).ok) (g := .nm 4) (body := l0__law_digits) (n := 63)
    (fun n L h' => ∃ ds, ∃ x4 x5 x6 x7, L = sD ns h x4 x5 x6 x7 ∧ h' = hD h ds ∧ ds.length ≤ 72 * n) (fun _ _ _ _ => trivial)
    (fun n L h' hn ⟨ds, x4, x5, x6, x7, e1, e2, hle⟩ => by
      subst e1 e2
      refine ⟨sD ns h (some (.int (n : Int))) x5 x6 x7, rfl, ?_⟩
      obtain ⟨c, ec⟩ := cell_ok (ns := ns) (k := n) (h := hD h ds)
      have go : ∀ c : Int, ∃ L2 h2, (sCons (sIf (tVal (eOp2 opGe (eVar 5) (eOp2 opPow (eCon (.int 10)) (eCon (.int 18)))))
          (sCons (sFor (iRange1 (eCon (.int 60))) (.nm 6) l1__law_digits) sNil)
          (sCons (sAsg (.nm 7) (eOp2 opMod (eOpN bInt (aCons (eOp2 opAdd (eOp2 opAdd (eOp2 opMul (eVar 5) (eCon (.int 48271))) (eOp2 opMul (eVar 4) (eCon (.int 69621)))) (eCon (.int 11))) aNil)) (eCon (.int 2147483647))))
          (sCons (sFor (iRange1 (eCon (.int 12))) (.nm 6) l2__law_digits) sNil))) sNil) (sD ns h (some (.int (n : Int))) (some (.int c)) x6 x7) (hD h ds) = .nx L2 h2 ∧ ∃ ds, ∃ x4 x5 x6 x7, L2 = sD ns h x4 x5 x6 x7 ∧ h2 = hD h ds ∧ ds.length ≤ 72 * (n + 1) := fun c => by
        by_cases hc : 1000000000000000000 ≤ c
        · obtain ⟨ds', c', y6, e, hl⟩ := l1_ok (ns := ns) (ds := ds) (h := h) (x4 := some (.int (n : Int))) (x6 := x6) (x7 := x7) (c := c) (by omega)
          refine ⟨sD ns h (some (.int (n : Int))) (some (.int c')) y6 x7, hD h ds', ?_, ds', _, _, _, _, rfl, rfl, by omega⟩
          have : iRange1 (eCon (.int 60)) (sD ns h (some (.int (n : Int))) (some (.int c)) x6 x7) (hD h ds) = .ok (.rg 0 60) (hD h ds) := by simp
          simp [pow_ok, sD, hc] at e ⊢
          rw [e]; simp
        · obtain ⟨ds', c', y6, e, hl⟩ := l2_ok (ns := ns) (ds := ds) (h := h) (x4 := some (.int (n : Int))) (x5 := some (.int c)) (x6 := x6) (c := (c * 48271 + (n : Int) * 69621 + 11) % 2147483647) (by omega)
          refine ⟨sD ns h (some (.int (n : Int))) (some (.int c)) y6 (some (.int c')), hD h ds', ?_, ds', _, _, _, _, rfl, rfl, by omega⟩
          simp [pow_ok, sD, hc, mod_ok (show (0 : Int) < 2147483647 by omega), mul_ok (show -4294967296 < (48271 : Int) ∧ (48271 : Int) < 4294967296 by omega), mul_ok (show -4294967296 < (69621 : Int) ∧ (69621 : Int) < 4294967296 by omega)] at e ⊢
          rw [e]; simp
      by_cases hc : c < 0
      · obtain ⟨L2, h2, e, q⟩ := go (1 - 2 * c)
        refine ⟨L2, h2, .inl ?_, q⟩
        rw [← e]
        simp only [l0__law_digits, sCons_eq, sAsg_eq, eCall_eq, aCons_eq, aNil_eq, sD, eVar_eq, List.getElem?_cons_succ, List.getElem?_cons_zero, R.bind_ok, ec, R.then_ok, put_nm, List.set_cons_succ, List.set_cons_zero, Out.seq_nx, sIf_eq, tVal_eq, eOp2_eq, eCon_eq, cmp_int, R.of_some, asBool_bool, hc, decide_true, if_true, mul_ok' (show -4294967296 < (2 : Int) ∧ (2 : Int) < 4294967296 by omega), sub_int, sNil_eq]
      · obtain ⟨L2, h2, e, q⟩ := go c
        refine ⟨L2, h2, .inl ?_, q⟩
        rw [← e]
        simp only [l0__law_digits, sCons_eq, sAsg_eq, eCall_eq, aCons_eq, aNil_eq, sD, eVar_eq, List.getElem?_cons_succ, List.getElem?_cons_zero, R.bind_ok, ec, R.then_ok, put_nm, List.set_cons_succ, List.set_cons_zero, Out.seq_nx, sIf_eq, tVal_eq, eOp2_eq, eCon_eq, cmp_int, R.of_some, asBool_bool, hc, decide_false, Bool.false_eq_true, if_false, sNil_eq])
    (L := sD ns h none none none none) (h := hD h []) ⟨[], none, none, none, none, rfl, rfl, by simp⟩
  refine ⟨ds, ?_⟩
  have e0 : iRange2 (eVar 1) (eVar 2) (sD ns h none none none none) (hD h []) = .ok (.rg 0 63) (hD h []) := by simp [sD]
  simp [m__law_digits, fn, b__law_digits, List.replicate]
  simp [sD, hD] at e
  rw [e]
  simp [gc, hD]
/-! ### the box -/
def Bx (ds : List Int) (at' : Nat) : Hh := [.lst (ds.map W.int), .lst [.ref 0, .int at']]
def dr (ds : List Int) (at' : Nat) (many : Int) : Int := ds.getD at' 0 % many
theorem dr_range {ds : List Int} {k : Nat} {many : Int} (h : 0 < many) : 0 ≤ dr ds k many ∧ dr ds k many < many := ⟨Int.emod_nonneg _ (by omega), Int.emod_lt_of_pos _ h⟩
theorem draw_ok {ds : List Int} {k : Nat} {many : Int} {T : Hh} (h : 0 < many) : m__law_draw [.ref 1, .d (.int many)] (Bx ds k ++ T) = .ok (.int (dr ds k many)) (Bx ds (k + 1) ++ T) := by
  have e0 : opIx (.ref 1) (.d (.int 1)) (Bx ds k ++ T) = some (.int (k : Int), Bx ds k ++ T) := opIx_lst (n := 1) (ws := [.ref 0, .int k]) rfl rfl
  have e1 : setIx (.ref 1) (.d (.int 1)) (W.int ((k : Int) + 1)) (Bx ds k ++ T) = some (Bx ds (k + 1) ++ T) := by
    simp [setIx, Bx, ixN]
  have e2 : opIx (.ref 1) (.d (.int 0)) (Bx ds (k + 1) ++ T) = some (.ref 0, Bx ds (k + 1) ++ T) := opIx_lst (n := 0) (ws := [.ref 0, .int (k + 1 : Nat)]) rfl rfl
  have e3 : bLen [.ref 0] (Bx ds (k + 1) ++ T) = some (.int ds.length, Bx ds (k + 1) ++ T) := by simp [bLen, Bx]
  have g : ∀ w, gc (Bx ds k ++ T) w (Bx ds (k + 1) ++ T) = Bx ds (k + 1) ++ T := fun w => gc_len (by simp [Bx])
  by_cases hk : k < ds.length
  · have e4 : opIx (.ref 0) (.d (.int (k : Int))) (Bx ds (k + 1) ++ T) = some (.int ds[k], Bx ds (k + 1) ++ T) := opIx_lst (n := k) (ws := ds.map W.int) rfl (by simp [hk])
    simp [m__law_draw, fn, b__law_draw, e0, e1, e2, e3, hk, e4, mod_ok h, g, dr]
  · simp [m__law_draw, fn, b__law_draw, e0, e1, e2, e3, hk, g, dr]
/-- a comprehension over range(n) that draws once for each element -/
theorem eComp_draw {i : IM} {vs : List Nat} {g : Tg} {e : EM} {L : Loc} {h0 : Hh} {ds : List Int} {k n : Nat} {T : Hh} (f : Nat → W) (hi : i L h0 = .ok (.rg 0 n) (Bx ds k ++ T)) (hn : n ≤ 16777216)
    (hx : ∀ q, q < n → ∃ L1, g.put (.int (q : Int)) (wipeL L vs) = some L1 ∧ ∀ acc : List W, e L1 (Bx ds (k + q) ++ (T ++ [.lst acc])) = .ok (f q) (Bx ds (k + (q + 1)) ++ (T ++ [.lst acc]))) :
    eComp i vs g tYes e L h0 = .ok (.ref (T.length + 2)) (Bx ds (k + n) ++ (T ++ [.lst ((List.range n).map f)])) := by
  have bl : ∀ k, (Bx ds k).length = 2 := fun _ => rfl
  have hD : ∀ k acc, (Bx ds k ++ (T ++ [O.lst acc]))[T.length + 2]? = some (.lst acc) := fun k acc => by
    rw [List.getElem?_append_right (by rw [bl]; omega), bl]; simp
  have hS : ∀ k acc x, (Bx ds k ++ (T ++ [O.lst acc])).set (T.length + 2) (.lst (acc ++ [x])) = Bx ds k ++ (T ++ [O.lst (acc ++ [x])]) := fun k acc x => by
    rw [List.set_append_right _ _ (by rw [bl]; omega), bl]; simp
  have go : ∀ (m q : Nat) (acc : List W), q + m = n → acc.length = q → compL (Src.rg 0 n).ok vs g (fun L h => noEx (tYes L h)) (fun L h => noEx (e L h)) (T.length + 2) L ((List.range' q m).map fun (i : Nat) => W.int (i : Int)) (Bx ds (k + q) ++ (T ++ [.lst acc])) =
      .ok (.ref (T.length + 2)) (Bx ds (k + n) ++ (T ++ [.lst (acc ++ (List.range' q m).map f)])) := by
    intro m
    induction m with
    | zero =>
      intro q acc e _
      have : q = n := by omega
      subst this
      simp [compL]
    | succ m ih =>
      intro q acc e1 hl
      obtain ⟨L1, hp, he⟩ := hx q (by omega)
      rw [List.range'_succ, List.map_cons, compL, if_pos (show (Src.rg 0 n).ok _ from trivial), hp]
      simp only [tYes_eq, noEx_ok, R.bind_ok, if_true, he acc, hD, hS]
      rw [if_pos (by simp only [sizeMax]; omega)]
      have ih' := ih (q + 1) (acc ++ [f q]) (by omega) (by simp [hl])
      simp only [tYes_eq, noEx_ok] at ih'
      rw [ih']
      simp
  have e0 : (Src.rg 0 n).items = (List.range' 0 n).map fun (i : Nat) => W.int (i : Int) := by
    simp [Src.items, rgItems, List.range_eq_range']
  have l0 : (Bx ds k ++ T).length = T.length + 2 := by rw [List.length_append, bl]; omega
  rw [eComp_eq, hi, R.bind_ok, e0, l0, List.append_assoc]
  have := go n 0 [] (by omega) rfl
  rw [show k + 0 = k from rfl] at this
  rw [this, List.nil_append, List.range_eq_range']
open Classical in
theorem eGc_no {m : EM} {L : Loc} {h h' : Hh} {w : W} (e : m L h = .ok w h') (hp : h'.take h.length ≠ h) : eGc m L h = .ok w h' := by
  unfold eGc; rw [e]; simp [hp]
theorem Bx_ne {ds : List Int} {k k' : Nat} {T T' : Hh} (h : k ≠ k') : (Bx ds k' ++ T').take (Bx ds k ++ T).length ≠ Bx ds k ++ T := fun e => by
  have := congrArg (fun l : Hh => l[1]?) e
  have l2 : (Bx ds k ++ T).length = T.length + 2 := by simp [Bx]
  rw [l2] at this
  simp [Bx, List.getElem?_take] at this
  omega
theorem gcS_len {M M' : Hh} {L : Loc} (h : M'.length = M.length) : gcS M L M' = M' := by
  unfold gcS; split
  · rw [← h, List.take_length]
  · rfl
theorem gcS_bx {ds : List Int} {k k' : Nat} {L : Loc} {T : Hh} (h : locUnd 2 L = true) : gcS (Bx ds k) L (Bx ds k' ++ T) = Bx ds k' := by
  have e2 : (Bx ds k' ++ T).take (Bx ds k).length = Bx ds k' := by simp [Bx]
  unfold gcS
  rw [if_pos, e2]
  refine ⟨h, .inr ⟨?_, by simp [Bx]⟩⟩
  rw [e2]
  have : (Bx ds k).length = 2 := rfl
  rw [this]
  simp [Bx, O.und, List.all_eq_true]
/-- the box at the beginning -/
theorem box_ok {ns : List Int} {L : Loc} {i : Nat} (hL : L[i]? = some (some (.d (encL ns)))) : ∃ ds, eLst (aCons (eCall m__law_digits (aCons (eVar i) (aCons (eCon (.int 0)) (aCons (eCon (.int 63)) aNil)))) (aCons (eCon (.int 0)) aNil)) L [] = .ok (.ref 1) (Bx ds 0) := by
  obtain ⟨ds, e⟩ := digits_ok (ns := ns) (h := [])
  refine ⟨ds, ?_⟩
  simp [hL, e, sizeMax, hD, Bx]
end Sp
end

section
/-! SpP: how a program is drawn: the box's heap, picks. -/
namespace Sp
open Mi Sem
open PySem (PyData Str)
/-- the heap begins with the box -/
def Bd (ds : List Int) (h : Hh) : Prop := ∃ k T, h = Bx ds k ++ T
/-- all but the box's own place stays -/
def Ex (h h' : Hh) : Prop := h.length ≤ h'.length ∧ ∀ (i : Nat) (o : O), i ≠ 1 → h[i]? = some o → h'[i]? = some o
theorem Ex.refl {h : Hh} : Ex h h := ⟨Nat.le_refl _, fun _ _ _ e => e⟩
theorem Ex.trans {a b c : Hh} (x : Ex a b) (y : Ex b c) : Ex a c := ⟨Nat.le_trans x.1 y.1, fun i o n e => y.2 i o n (x.2 i o n e)⟩
theorem Ex.app {h T : Hh} : Ex h (h ++ T) := ⟨by simp, fun i o _ e => by rw [List.getElem?_append_left (List.getElem?_eq_some_iff.mp e).1]; exact e⟩
section
variable {ds : List Int} {h h' : Hh} {w : W}
theorem Bd.len (b : Bd ds h) : 2 ≤ h.length := by obtain ⟨k, T, rfl⟩ := b; simp [Bx]
theorem Bd.app {T : Hh} (b : Bd ds h) : Bd ds (h ++ T) := by obtain ⟨k, S, rfl⟩ := b; exact ⟨k, S ++ T, by simp⟩
theorem draw {many : Int} (b : Bd ds h) (hm : 0 < many) : ∃ i h', m__law_draw [.ref 1, .d (.int many)] h = .ok (.int i) h' ∧ Bd ds h' ∧ Ex h h' ∧ 0 ≤ i ∧ i < many := by
  obtain ⟨k, T, rfl⟩ := b
  have r := dr_range (ds := ds) (k := k) hm
  refine ⟨dr ds k many, Bx ds (k + 1) ++ T, draw_ok hm, ⟨k + 1, T, rfl⟩, ⟨by simp [Bx], fun i o n e => ?_⟩, r.1, r.2⟩
  match i, n with
  | 0, _ => simpa [Bx] using e
  | i + 2, _ => simpa [Bx] using e
theorem gc_bd (b : Bd ds h) (b' : Bd ds h') (e : Ex h h') : Bd ds (gc h w h') ∧ Ex h (gc h w h') ∧ (gc h w h' = h' ∨ w.und h.length = true ∧ gc h w h' = h'.take h.length) := by
  have hl := b.len
  unfold gc
  split
  · rename_i c
    refine ⟨?_, ⟨?_, fun i o n q => ?_⟩, .inr ⟨c.1, rfl⟩⟩
    · obtain ⟨k, T, rfl⟩ := b'
      refine ⟨k, T.take (h.length - 2), ?_⟩
      rw [List.take_append]
      congr 1
      · rw [List.take_of_length_le]; simpa [Bx] using hl
    · rw [List.length_take]; have := e.1; omega
    · rw [List.getElem?_take_of_lt (List.getElem?_eq_some_iff.mp q).1]; exact e.2 i o n q
  · exact ⟨b', e, .inl rfl⟩
/-- a new object stays -/
theorem gc_new {a : Nat} (ha : h.length ≤ a) : gc h (.ref a) h' = h' := by
  unfold gc
  rw [if_neg]
  intro c
  have := c.1
  simp at this
  omega
theorem pick_lst {a : Nat} {ws : List W} (b : Bd ds h) (ha : h[a]? = some (.lst ws)) (h1 : a ≠ 1) (hne : ws ≠ []) : ∃ w h', m__law_pick [.ref 1, .ref a] h = .ok w h' ∧ Bd ds h' ∧ Ex h h' ∧ w ∈ ws := by
  obtain ⟨i, h2, e, b2, x2, i0, i1⟩ := draw b (many := 900) (by omega)
  have ha2 := x2.2 a _ h1 ha
  have hl : 0 < ws.length := List.length_pos_iff.mpr hne
  have e2 : bLen [.ref a] h2 = some (.int ws.length, h2) := by simp [bLen, ha2]
  have hm := mod_ok (i := i) (j := (ws.length : Int)) (M := h2) (by omega)
  have hp := Int.emod_nonneg i (show (ws.length : Int) ≠ 0 by omega)
  have hq := Int.emod_lt_of_pos i (show (0 : Int) < ws.length by omega)
  obtain ⟨j, hj⟩ : ∃ j : Nat, i % (ws.length : Int) = j := ⟨(i % (ws.length : Int)).toNat, by omega⟩
  rw [hj] at hm
  have hjl : j < ws.length := by omega
  have e3 : opIx (.ref a) (.d (.int (j : Int))) h2 = some (ws[j], h2) := opIx_lst ha2 (by simp [hjl])
  obtain ⟨g1, g2, _⟩ := gc_bd (w := ws[j]) b b2 x2
  exact ⟨ws[j], gc h ws[j] h2, by simp [m__law_pick, fn, b__law_pick, e, e2, hm, e3], g1, g2, by simp⟩
theorem pick_tup {xs : List PyData} (b : Bd ds h) (hne : xs ≠ []) : ∃ x h', m__law_pick [.ref 1, .d (.tuple xs)] h = .ok (.d x) h' ∧ Bd ds h' ∧ Ex h h' ∧ x ∈ xs := by
  obtain ⟨i, h2, e, b2, x2, i0, i1⟩ := draw b (many := 900) (by omega)
  have hl : 0 < xs.length := List.length_pos_iff.mpr hne
  have e2 : bLen [.d (.tuple xs)] h2 = some (.int xs.length, h2) := by simp [bLen]
  have hm := mod_ok (i := i) (j := (xs.length : Int)) (M := h2) (by omega)
  have hp := Int.emod_nonneg i (show (xs.length : Int) ≠ 0 by omega)
  have hq := Int.emod_lt_of_pos i (show (0 : Int) < xs.length by omega)
  obtain ⟨j, hj⟩ : ∃ j : Nat, i % (xs.length : Int) = j := ⟨(i % (xs.length : Int)).toNat, by omega⟩
  rw [hj] at hm
  have hjl : j < xs.length := by omega
  have e3 : opIx (.d (.tuple xs)) (.d (.int (j : Int))) h2 = some (.d xs[j], h2) := opIx_tup (by simp [hjl])
  obtain ⟨g1, g2, _⟩ := gc_bd (w := .d xs[j]) b b2 x2
  exact ⟨xs[j], gc h (.d xs[j]) h2, by simp [m__law_pick, fn, b__law_pick, e, e2, hm, e3], g1, g2, by simp⟩
/-! ### a dict of names and kinds -/
abbrev enK (kv : Str × Str) : Key × W := (.inr kv.1, W.str kv.2)
/-- at p stand the names kn with their kinds -/
structure Kn (h : Hh) (p : Nat) (kn : List (Str × Str)) : Prop where
  at_ : h[p]? = some (.dk (kn.map enK))
  ne : p ≠ 1
  ok : ∀ kv ∈ kn, PyData.strOk kv.1 = true
  nd : (kn.map (·.1)).Nodup
theorem Kn.mono {p : Nat} {kn : List (Str × Str)} (k : Kn h p kn) (e : Ex h h') : Kn h' p kn := ⟨e.2 _ _ k.ne k.at_, k.ne, k.ok, k.nd⟩
@[simp] theorem eq_strs (neg : Bool) (x y : Str) (M : Hh) : opEqB neg (.d (.str x)) (.d (.str y)) M = some (.bool (neg != decide (x = y)), M) := by
  have : (x == y) = decide (x = y) := by
    by_cases e : x = y
    · simp [e]
    · simp [e]
  simp [opEqB, PyData.depth, PyData.eqv, dataW, roomDeep, this]
theorem look_kn {kn : List (Str × Str)} {n : Str} : look (kn.map enK) (.inr n) = (kn.find? fun kv => decide (kv.1 = n)).map fun kv => W.str kv.2 := by
  unfold look
  rw [List.find?_map]
  simp only [Option.map_map, Function.comp_def, enK, Sum.inr.injEq]
/-- names of a kind, in their order -/
def namesOf (kd : Str) (kn : List (Str × Str)) : List Str := (sortS (kn.map (·.1))).filter fun n => decide (((kn.find? fun kv => decide (kv.1 = n)).map (·.2)) = some kd)
theorem namesOf_mem {kd n : Str} {kn : List (Str × Str)} (hm : n ∈ namesOf kd kn) : (n, kd) ∈ kn := by
  obtain ⟨h1, h2⟩ := List.mem_filter.mp hm
  have h2 := of_decide_eq_true h2
  obtain ⟨kv, h3, h4⟩ := Option.map_eq_some_iff.mp h2
  have h5 := List.mem_of_find?_eq_some h3
  have h6 : kv.1 = n := by simpa using List.find?_some h3
  obtain ⟨a, b⟩ := kv
  simp at h4 h6
  subst h4 h6
  exact h5
theorem kinds_ok {p : Nat} {kn : List (Str × Str)} {kd : Str} (k : Kn h p kn) (hl : kn.length < 64) : eComp (iSeq (eOpN bSorted2 (aCons (eVar 0) aNil))) [1] (.nm 1) (tVal (eOp2 opEq (eOp2 opIx (eVar 0) (eVar 1)) (eCon (.str kd)))) (eVar 1) [some (.ref p), none] h = .ok (.ref (h.length + 1)) (h ++ [.lst ((sortS (kn.map (·.1))).map W.str), .lst ((namesOf kd kn).map W.str)]) := by
  have hp := List.mergeSort_perm (kn.map (·.1)) leS
  have hs : bSorted2 [.ref p] h = some (.ref h.length, h ++ [.lst ((sortS (kn.map (·.1))).map W.str)]) := by
    have hm : ((kn.map enK).map (·.1)).mapM strK = some (kn.map (·.1)) := by
      clear k hl hp
      induction kn with
      | nil => rfl
      | cons kv kn ih => simp only [List.map_cons, List.mapM_cons, ih]; rfl
    have hok : (kn.map (·.1)).all PyData.strOk = true := List.all_eq_true.mpr fun x hx => by
      obtain ⟨kv, h1, rfl⟩ := List.mem_map.mp hx
      exact k.ok kv h1
    simp only [bSorted2, k.at_, hm]
    rw [if_pos ⟨by simpa using hl, hok⟩]
  have hlen : (sortS (kn.map (·.1))).length = kn.length := by rw [show sortS (kn.map (·.1)) = (kn.map (·.1)).mergeSort leS from rfl, hp.length_eq]; simp
  have key := eComp_pure (i := iSeq (eOpN bSorted2 (aCons (eVar 0) aNil))) (vs := [1]) (g := .nm 1) (t := tVal (eOp2 opEq (eOp2 opIx (eVar 0) (eVar 1)) (eCon (.str kd)))) (e := eVar 1) (L := [some (.ref p), none]) (h0 := h)
    (h := h ++ [.lst ((sortS (kn.map (·.1))).map W.str)]) (enc := W.str) (s := .ls h.length ((sortS (kn.map (·.1))).map W.str)) (fun n => decide (((kn.find? fun kv => decide (kv.1 = n)).map (·.2)) = some kd)) W.str (sortS (kn.map (·.1)))
    (by simp [hs]) rfl (fun acc => by simp) (by simp only [sizeMax]; omega) (fun n hn => ⟨[some (.ref p), some (.str n)], rfl, fun acc => ?_⟩)
  · rw [key]; simp [namesOf]
  · have hn2 : n ∈ kn.map (·.1) := hp.mem_iff.mp hn
    have hat : (h ++ [O.lst ((sortS (kn.map (·.1))).map W.str)] ++ [O.lst acc])[p]? = some (.dk (kn.map enK)) := by
      have := k.at_
      rw [List.append_assoc, List.getElem?_append_left (List.getElem?_eq_some_iff.mp this).1]; exact this
    obtain ⟨kv, hkv⟩ : ∃ kv, (kn.find? fun kv => decide (kv.1 = n)) = some kv := by
      obtain ⟨kv, h1, h2⟩ := List.mem_map.mp hn2
      cases hf : kn.find? fun kv => decide (kv.1 = n) with
      | some kv => exact ⟨kv, rfl⟩
      | none => have := List.find?_eq_none.mp hf kv h1; simp [h2] at this
    have hix : opIx (.ref p) (.d (.str n)) (h ++ [O.lst ((sortS (kn.map (·.1))).map W.str)] ++ [O.lst acc]) = some (W.str kv.2, h ++ [O.lst ((sortS (kn.map (·.1))).map W.str)] ++ [O.lst acc]) := by
      simp only [opIx, hat, dget, keyW, Option.map_some, look_kn, hkv]
    refine ⟨?_, fun _ => by simp⟩
    simp only [tVal_eq, eOp2_eq, eVar_eq, List.getElem?_cons_zero, List.getElem?_cons_succ, R.bind_ok, hix, R.of_some, eCon_eq, eq_strs, asBool_bool, hkv, Option.map_some]
    simp
theorem ints_ok {p : Nat} {kn : List (Str × Str)} (k : Kn h p kn) (hl : kn.length < 64) : m__law_ints [.ref p] h = .ok (.ref (h.length + 1)) (h ++ [.lst ((sortS (kn.map (·.1))).map W.str), .lst ((namesOf "int" kn).map W.str)]) := by
  have e := kinds_ok (kd := "int") k hl
  simp only [m__law_ints, fn, b__law_ints, List.length_cons, List.length_nil, if_true, List.map_cons, List.map_nil, List.replicate, List.cons_append, List.nil_append, Nat.reduceAdd, Nat.reduceSub, sCons_eq, sRet_eq, e, R.then_ok, Out.seq_rt, outR_rt, tidy_ok]
  rw [gc_new (by omega)]
theorem arrays_ok {p : Nat} {kn : List (Str × Str)} (k : Kn h p kn) (hl : kn.length < 64) : m__law_arrays [.ref p] h = .ok (.ref (h.length + 1)) (h ++ [.lst ((sortS (kn.map (·.1))).map W.str), .lst ((namesOf "array" kn).map W.str)]) := by
  have e := kinds_ok (kd := "array") k hl
  simp only [m__law_arrays, fn, b__law_arrays, List.length_cons, List.length_nil, if_true, List.map_cons, List.map_nil, List.replicate, List.cons_append, List.nil_append, Nat.reduceAdd, Nat.reduceSub, sCons_eq, sRet_eq, e, R.then_ok, Out.seq_rt, outR_rt, tidy_ok]
  rw [gc_new (by omega)]
end
end Sp
end

section
/-! SpP2: terms, conditions, arguments, values. -/
namespace Sp
open Mi Sem
open PySem (PyData Str)
theorem eqnil_d {xs : List PyData} {neg : Bool} {a b : Nat} {M : Hh} (h : M[a]? = some (.lst (xs.map W.d))) (hb : M[b]? = some (.lst [])) : opEqB neg (.ref a) (.ref b) M = some (.bool (neg != xs.isEmpty), M) := by
  have e1 : dataW M dataDeep (.ref a) = some (.list xs) := by
    show dataW M 5 (.ref a) = _
    unfold dataW
    rw [h]
    simp only [mapM_dataW_d, Option.map_some]
  have e2 : dataW M dataDeep (.ref b) = some (.list []) := by
    show dataW M 5 (.ref b) = _
    unfold dataW
    rw [hb]
    rfl
  have : min (PyData.list xs).depth (PyData.list ([] : List PyData)).depth ≤ roomDeep := by
    refine Nat.le_trans (Nat.min_le_right _ _) ?_
    simp [PyData.depth, PyData.depthAll, roomDeep]
  simp only [opEqB, e1, e2, this, if_true]
  cases xs <;> simp [PyData.eqv, PyData.eqvAll]
section
variable {ds : List Int} {h h' : Hh} {w : W} {p : Nat} {kn : List (Str × Str)}
theorem eqnil_s {xs : List Str} {neg : Bool} {T : Hh} {y : O} : opEqB neg (.ref (h.length + 1)) (.ref (h ++ [y, .lst (xs.map W.str)]).length) (h ++ [y, .lst (xs.map W.str)] ++ [.lst []]) = some (.bool (neg != xs.isEmpty), h ++ [y, .lst (xs.map W.str)] ++ [.lst []]) := by
  have := eqnil_d (xs := xs.map PyData.str) (neg := neg) (a := h.length + 1) (b := (h ++ [y, .lst (xs.map W.str)]).length) (M := h ++ [y, .lst (xs.map W.str)] ++ [.lst []]) (by simp [List.map_map]) (by simp)
  rw [this]
  cases xs <;> rfl
theorem ints_ne {L : Loc} {i : Nat} (k : Kn h p kn) (hl : kn.length < 64) (hL : L[i]? = some (some (.ref p))) : tGc (tVal (eOp2 opNe (eCall m__law_ints (aCons (eVar i) aNil)) (eLst aNil))) L h = .ok (!(namesOf "int" kn).isEmpty) h := by
  refine tGc_ok (h' := h ++ [.lst ((sortS (kn.map (·.1))).map W.str), .lst ((namesOf "int" kn).map W.str)] ++ [.lst []]) ?_ (by rw [List.append_assoc]; exact List.take_left)
  have e := ints_ok k hl
  simp only [tVal_eq, eOp2_eq, eCall_eq, aCons_eq, aNil_eq, eVar_eq, hL, R.bind_ok, e, eLst_eq, List.length_nil, Nat.zero_le, if_true]
  rw [show opNe = opEqB true from rfl, eqnil_s (T := [])]
  simp
theorem arrays_ne {L : Loc} {i : Nat} (k : Kn h p kn) (hl : kn.length < 64) (hL : L[i]? = some (some (.ref p))) : tGc (tVal (eOp2 opNe (eCall m__law_arrays (aCons (eVar i) aNil)) (eLst aNil))) L h = .ok (!(namesOf "array" kn).isEmpty) h := by
  refine tGc_ok (h' := h ++ [.lst ((sortS (kn.map (·.1))).map W.str), .lst ((namesOf "array" kn).map W.str)] ++ [.lst []]) ?_ (by rw [List.append_assoc]; exact List.take_left)
  have e := arrays_ok k hl
  simp only [tVal_eq, eOp2_eq, eCall_eq, aCons_eq, aNil_eq, eVar_eq, hL, R.bind_ok, e, eLst_eq, List.length_nil, Nat.zero_le, if_true]
  rw [show opNe = opEqB true from rfl, eqnil_s (T := [])]
  simp
theorem arrays_eq {L : Loc} {i : Nat} (k : Kn h p kn) (hl : kn.length < 64) (hL : L[i]? = some (some (.ref p))) : tGc (tVal (eOp2 opEq (eCall m__law_arrays (aCons (eVar i) aNil)) (eLst aNil))) L h = .ok ((namesOf "array" kn).isEmpty) h := by
  refine tGc_ok (h' := h ++ [.lst ((sortS (kn.map (·.1))).map W.str), .lst ((namesOf "array" kn).map W.str)] ++ [.lst []]) ?_ (by rw [List.append_assoc]; exact List.take_left)
  have e := arrays_ok k hl
  simp only [tVal_eq, eOp2_eq, eCall_eq, aCons_eq, aNil_eq, eVar_eq, hL, R.bind_ok, e, eLst_eq, List.length_nil, Nat.zero_le, if_true]
  rw [show opEq = opEqB false from rfl, eqnil_s (T := [])]
  simp
/-- a name of a kind is picked -/
theorem pick_int (b : Bd ds h) (k : Kn h p kn) (hl : kn.length < 64) (hne : (namesOf "int" kn).isEmpty = false) :
    ∃ n h', m__law_pick [.ref 1, .ref (h.length + 1)] (h ++ [.lst ((sortS (kn.map (·.1))).map W.str), .lst ((namesOf "int" kn).map W.str)]) = .ok (.str n) h' ∧ Bd ds h' ∧ Ex h h' ∧ (n, Str.ofString "int") ∈ kn := by
  obtain ⟨w, h2, e2, b2, x2, hw⟩ := pick_lst (ws := (namesOf "int" kn).map W.str) (a := h.length + 1) (b.app (T := [.lst ((sortS (kn.map (·.1))).map W.str), .lst ((namesOf "int" kn).map W.str)])) (by simp) (by have := b.len; omega) (by
    intro z
    have := List.map_eq_nil_iff.mp z
    rw [this] at hne; cases hne)
  obtain ⟨n, hn, rfl⟩ := List.mem_map.mp hw
  exact ⟨n, h2, e2, b2, Ex.app.trans x2, namesOf_mem hn⟩
theorem pick_arr (b : Bd ds h) (k : Kn h p kn) (hl : kn.length < 64) (hne : (namesOf "array" kn).isEmpty = false) :
    ∃ n h', m__law_pick [.ref 1, .ref (h.length + 1)] (h ++ [.lst ((sortS (kn.map (·.1))).map W.str), .lst ((namesOf "array" kn).map W.str)]) = .ok (.str n) h' ∧ Bd ds h' ∧ Ex h h' ∧ (n, Str.ofString "array") ∈ kn := by
  obtain ⟨w, h2, e2, b2, x2, hw⟩ := pick_lst (ws := (namesOf "array" kn).map W.str) (a := h.length + 1) (b.app (T := [.lst ((sortS (kn.map (·.1))).map W.str), .lst ((namesOf "array" kn).map W.str)])) (by simp) (by have := b.len; omega) (by
    intro z
    have := List.map_eq_nil_iff.mp z
    rw [this] at hne; cases hne)
  obtain ⟨n, hn, rfl⟩ := List.mem_map.mp hw
  exact ⟨n, h2, e2, b2, Ex.app.trans x2, namesOf_mem hn⟩
/-! ### what is drawn -/
inductive TermK (kn : List (Str × Str)) : PyData → Prop
  | name (n : Str) (c : Int) : (n, Str.ofString "int") ∈ kn → -1 ≤ c → c ≤ 1 → TermK kn (.tuple [.str "name", .str n, .int c])
  | len (n : Str) (c : Int) : (n, Str.ofString "array") ∈ kn → -1 ≤ c → c ≤ 1 → TermK kn (.tuple [.str "len", .str n, .int c])
  | num (c : Int) : -2 ≤ c → c ≤ 2 → TermK kn (.tuple [.str "num", .int c])
theorem mkTup_d3 (x y z : PyData) : mkTup [.d x, .d y, .d z] = .d (.tuple [x, y, z]) := mkTup_map [x, y, z]
theorem mkTup_d2 (x y : PyData) : mkTup [.d x, .d y] = .d (.tuple [x, y]) := mkTup_map [x, y]
theorem mkTup_d1 (x : PyData) : mkTup [.d x] = .d (.tuple [x]) := mkTup_map [x]
theorem mkTup_d4 (x y z u : PyData) : mkTup [.d x, .d y, .d z, .d u] = .d (.tuple [x, y, z, u]) := mkTup_map [x, y, z, u]
theorem mkTup_d5 (x y z u v : PyData) : mkTup [.d x, .d y, .d z, .d u, .d v] = .d (.tuple [x, y, z, u, v]) := mkTup_map [x, y, z, u, v]
theorem mkTup_d0 : mkTup [] = .d (.tuple []) := mkTup_map []
/-- the end of a def that returns data -/
theorem fn_d {n k : Nat} {body : SM} {ws : List W} {x : PyData} (hn : ws.length = n) (b : Bd ds h) (b' : Bd ds h') (x' : Ex h h') (e : body (ws.map some ++ List.replicate (k - ws.length) none) h = .rt (.d x) h') : ∃ h'', fn n k body ws h = .ok (.d x) h'' ∧ Bd ds h'' ∧ Ex h h'' := by
  obtain ⟨g1, g2, _⟩ := gc_bd (w := .d x) b b' x'
  refine ⟨gc h (.d x) h', ?_, g1, g2⟩
  unfold fn
  rw [if_pos hn, e]
  rfl
theorem term_ok (b : Bd ds h) (k : Kn h p kn) (hl : kn.length < 64) : ∃ x h', m__law_term [.ref 1, .ref p] h = .ok (.d x) h' ∧ Bd ds h' ∧ Ex h h' ∧ TermK kn x := by
  obtain ⟨i, h1, e1, b1, x1, i0, i1⟩ := draw (many := 5) b (by omega)
  have k1 := k.mono x1
  have n1 := ints_ne (i := 1) (L := [some (.ref 1), some (.ref p), some (.int i)]) k1 hl rfl
  have n2 := arrays_ne (i := 1) (L := [some (.ref 1), some (.ref p), some (.int i)]) k1 hl rfl
  have done : ∃ x h', b__law_term [some (.ref 1), some (.ref p), none] h = .rt (.d x) h' ∧ Bd ds h' ∧ Ex h h' ∧ TermK kn x := by
    by_cases q1 : i < 3 ∧ (namesOf "int" kn).isEmpty = false
    · obtain ⟨q1, q2⟩ := q1
      obtain ⟨n, h2, e2, b2, x2, hn⟩ := pick_int b1 k1 hl q2
      obtain ⟨c, h3, e3, b3, x3, c0, c1⟩ := draw (many := 3) b2 (by omega)
      have ei := ints_ok k1 hl
      rw [q2] at n1
      exact ⟨_, h3, by simp [b__law_term, e1, q1, n1, ei, e2, e3, sizeMax, mkTup_d3], b3, x1.trans (x2.trans x3), .name n (c - 1) hn (by omega) (by omega)⟩
    · by_cases q2 : i = 3 ∧ (namesOf "array" kn).isEmpty = false
      · obtain ⟨q2, q3⟩ := q2
        obtain ⟨n, h2, e2, b2, x2, hn⟩ := pick_arr b1 k1 hl q3
        obtain ⟨c, h3, e3, b3, x3, c0, c1⟩ := draw (many := 3) b2 (by omega)
        have ei := arrays_ok k1 hl
        rw [q3] at n2
        subst q2
        exact ⟨_, h3, by simp [b__law_term, e1, n2, ei, e2, e3, sizeMax, mkTup_d3], b3, x1.trans (x2.trans x3), .len n (c - 1) hn (by omega) (by omega)⟩
      · obtain ⟨c, h3, e3, b3, x3, c0, c1⟩ := draw (many := 5) b1 (by omega)
        refine ⟨_, h3, ?_, b3, x1.trans x3, .num (c - 2) (by omega) (by omega)⟩
        have t1 : (if i < 3 then (!(namesOf "int" kn).isEmpty) else false) = false := by
          by_cases z : i < 3
          · rw [if_pos z]; cases y : (namesOf "int" kn).isEmpty
            · exact absurd ⟨z, y⟩ q1
            · rfl
          · rw [if_neg z]
        have t2 : (if i = 3 then (!(namesOf "array" kn).isEmpty) else false) = false := by
          by_cases z : i = 3
          · rw [if_pos z]; cases y : (namesOf "array" kn).isEmpty
            · exact absurd ⟨z, y⟩ q2
            · rfl
          · rw [if_neg z]
        by_cases z : i < 3
        · have z3 : ¬ i = 3 := by omega
          rw [if_pos z] at t1
          rw [t1] at n1
          simp [b__law_term, e1, z, z3, n1, e3, sizeMax, mkTup_d2]
        · by_cases z3 : i = 3
          · rw [if_pos z3] at t2
            rw [t2] at n2
            subst z3
            simp [b__law_term, e1, n2, e3, sizeMax, mkTup_d2]
          · simp [b__law_term, e1, z, z3, e3, sizeMax, mkTup_d2]
  obtain ⟨x, h2, e, b2, x2, t⟩ := done
  obtain ⟨h3, e3, b3, x3⟩ := fn_d (n := 2) (k := 3) (body := b__law_term) (ws := [.ref 1, .ref p]) rfl b b2 x2 e
  exact ⟨x, h3, e3, b3, x3, t⟩
end
end Sp
end

section
/-! SpP3: conditions, arguments, values. -/
namespace Sp
open Mi Sem
open PySem (PyData Str)
section
variable {ds : List Int} {h h' : Hh} {w : W} {p : Nat} {kn : List (Str × Str)}
inductive CondK (kn : List (Str × Str)) : PyData → Prop
  | most (a b : PyData) : TermK kn a → TermK kn b → CondK kn (.tuple [.str "most", a, b])
  | same (a b : PyData) : TermK kn a → TermK kn b → CondK kn (.tuple [.str "same", a, b])
/-- an item of a list that is laid for it -/
theorem ix_disp {i : Int} {T : List W} (b : Bd ds h) (h0 : 0 ≤ i) (hi : i < T.length) : ∃ w, w ∈ T ∧ T[i.toNat]? = some w ∧ ∀ h', Ex (h ++ [.lst T]) h' → opIx (.ref h.length) (.d (.int i)) h' = some (w, h') := by
  obtain ⟨j, rfl⟩ : ∃ j : Nat, i = j := ⟨i.toNat, by omega⟩
  have hj : j < T.length := by omega
  refine ⟨T[j], by simp, by simp [hj], fun h' x => opIx_lst (ws := T) (x.2 _ _ (by have := b.len; omega) (by simp)) (by simp [hj])⟩
open Classical in
/-- an expression whose garbage may be gone -/
theorem eGc_bd {m : EM} {L : Loc} {w : W} (b : Bd ds h) (e : m L h = .ok w h') (b' : Bd ds h') (x' : Ex h h') : ∃ h'', eGc m L h = .ok w h'' ∧ Bd ds h'' ∧ Ex h h'' ∧ (h'' = h' ∨ h'' = h ∧ w.und h.length = true) := by
  unfold eGc
  rw [e]
  by_cases c : w.und h.length = true ∧ h'.take h.length = h
  · exact ⟨h, by simp [c.1, c.2], b, .refl, .inr ⟨rfl, c.1⟩⟩
  · exact ⟨h', by simp only [R.bind_ok]; rw [if_neg c], b', x', .inl rfl⟩
open Classical in
theorem tGc_bd {m : TM} {L : Loc} {w : Bool} (b : Bd ds h) (e : m L h = .ok w h') (b' : Bd ds h') (x' : Ex h h') : ∃ h'', tGc m L h = .ok w h'' ∧ Bd ds h'' ∧ Ex h h'' := by
  unfold tGc
  rw [e]
  by_cases c : h'.take h.length = h
  · exact ⟨h, by simp [c], b, .refl⟩
  · exact ⟨h', by simp only [R.bind_ok]; rw [if_neg c], b', x'⟩
theorem cond_ok (b : Bd ds h) (k : Kn h p kn) (hl : kn.length < 64) : ∃ x h', m__law_condition [.ref 1, .ref p] h = .ok (.d x) h' ∧ Bd ds h' ∧ Ex h h' ∧ CondK kn x := by
  obtain ⟨i, h1, e1, b1, x1, i0, i1⟩ := draw (many := 3) (b.app (T := [.lst [W.str "most", W.str "most", W.str "same"]])) (by omega)
  obtain ⟨w, hw, hw2, hix⟩ := ix_disp (T := [W.str "most", W.str "most", W.str "same"]) b i0 (by simpa using i1)
  have hix := hix h1 x1
  have eg : eOp2 opIx (eLst (aCons (eCon (.str "most")) (aCons (eCon (.str "most")) (aCons (eCon (.str "same")) aNil)))) (eCall m__law_draw (aCons (eVar 0) (aCons (eCon (.int 3)) aNil))) [some (.ref 1), some (.ref p), none, none] h = .ok w h1 := by
    simp [sizeMax, e1, hix]
  obtain ⟨h2, e2, b2, x2, _⟩ := eGc_bd b eg b1 (Ex.app.trans x1)
  obtain ⟨y, h3, e3, b3, x3, t3⟩ := term_ok b2 (k.mono x2) hl
  obtain ⟨z, h4, e4, b4, x4, t4⟩ := term_ok b3 ((k.mono x2).mono x3) hl
  have xx := x2.trans (x3.trans x4)
  have done : ∃ x, b__law_condition [some (.ref 1), some (.ref p), none, none] h = .rt (.d x) h4 ∧ CondK kn x := by
    simp at hw
    rcases hw with rfl | rfl
    · exact ⟨_, by simp [b__law_condition, e2, e3, e4, sizeMax, mkTup_d3], .most y z t3 t4⟩
    · exact ⟨_, by simp [b__law_condition, e2, e3, e4, sizeMax, mkTup_d3], .same y z t3 t4⟩
  obtain ⟨x, e, t⟩ := done
  obtain ⟨h5, e5, b5, x5⟩ := fn_d (n := 2) (k := 4) (body := b__law_condition) (ws := [.ref 1, .ref p]) rfl b b4 xx e
  exact ⟨x, h5, e5, b5, x5, t⟩
/-! ### arguments -/
/-- a parameter: its name, its kind -/
abbrev enP (pk : Str × Str) : PyData := .tuple [.str pk.1, .str pk.2]
abbrev enPs (ps : List (Str × Str)) : PyData := .tuple (ps.map enP)
inductive ArgK (kn : List (Str × Str)) : Str × Str → PyData → Prop
  | int (n : Str) (t : PyData) : TermK kn t → ArgK kn (n, Str.ofString "int") t
  | arr (n a : Str) : (a, Str.ofString "array") ∈ kn → ArgK kn (n, Str.ofString "array") (.tuple [.str "array", .str a])
inductive ArgsK (kn : List (Str × Str)) : List (Str × Str) → List PyData → Prop
  | nil : ArgsK kn [] []
  | cons (q : Str × Str) (qs : List (Str × Str)) (t : PyData) (ts : List PyData) : ArgK kn q t → ArgsK kn qs ts → ArgsK kn (q :: qs) (t :: ts)
theorem ArgsK.snoc {ps : List (Str × Str)} {ts : List PyData} {q : Str × Str} {t : PyData} (a : ArgsK kn ps ts) (c : ArgK kn q t) : ArgsK kn (ps ++ [q]) (ts ++ [t]) := by
  induction a with
  | nil => exact .cons _ _ _ _ c .nil
  | cons q qs t ts h1 _ ih => exact .cons _ _ _ _ h1 ih
abbrev KindsOk (ps : List (Str × Str)) : Prop := ∀ q ∈ ps, q.2 = Str.ofString "int" ∨ q.2 = Str.ofString "array"
theorem args_ok {ps : List (Str × Str)} (b : Bd ds h) (k : Kn h p kn) (hl : kn.length < 64) (hk : KindsOk ps) (hp : ps.length < 1000) : ∃ x h', m__law_args [.ref 1, .d (enPs ps), .ref p] h = .ok (.d x) h' ∧ Bd ds h' ∧ Ex h h' ∧ (x = .none ∨ ∃ ts, x = .tuple ts ∧ ArgsK kn ps ts) := by
  have hne : ¬ (Str.ofString "array" = Str.ofString "int") := by decide +kernel
  have loop := forL_pre (ok := (Src.tp ((ps.map enP).map W.d)).ok) (g := .tp [4, 5]) (body := l0__law_args) (enc := fun q => W.d (enP q)) (xs := ps)
    (fun pre L h' => ∃ ts y4 y5, L = [some (.ref 1), some (.d (enPs ps)), some (.ref p), some (.d (.tuple ts)), y4, y5] ∧ Bd ds h' ∧ Ex h h' ∧ ArgsK kn pre ts ∧ ts.length = pre.length) (fun w h' => w = .d .none ∧ Bd ds h' ∧ Ex h h') (fun _ _ _ _ => trivial)
    (fun pre q post L h' e i => by
      obtain ⟨ts, y4, y5, rfl, b1, x1, a1, hlen⟩ := i
      have k1 := k.mono x1
      have hq := hk q (by rw [e]; simp)
      have hlt : pre.length < 1000 := by
        have := congrArg List.length e
        simp at this; omega
      refine ⟨[some (.ref 1), some (.d (enPs ps)), some (.ref p), some (.d (.tuple ts)), some (.str q.1), some (.str q.2)], by simp [enP, setAll], ?_⟩
      obtain ⟨qn, qk⟩ := q
      dsimp only at hq ⊢
      rcases hq with rfl | rfl
      · obtain ⟨x, h2, e2, b2, x2, t⟩ := term_ok b1 k1 hl
        refine .inl ⟨[some (.ref 1), some (.d (enPs ps)), some (.ref p), some (.d (.tuple (ts ++ [x]))), some (.str qn), some (.str "int")], h2, .inl ?_, ts ++ [x], _, _, rfl, b2, x1.trans x2, a1.snoc (.int qn x t), by simp [hlen]⟩
        have hadd : opAdd (.d (.tuple ts)) (.d (.tuple [x])) h2 = some (.d (.tuple (ts ++ [x])), h2) := by
          have : mkTup (ts.map W.d ++ [W.d x]) = .d (.tuple (ts ++ [x])) := by rw [← mkTup_map]; simp
          simp [opAdd, this, sizeMax]; omega
        simp [l0__law_args, e2, sizeMax, mkTup_d1, hadd]
      · have n2 := arrays_eq (i := 2) (L := [some (.ref 1), some (.d (enPs ps)), some (.ref p), some (.d (.tuple ts)), some (.str qn), some (.str "array")]) k1 hl rfl
        cases hz : (namesOf "array" kn).isEmpty with
        | true =>
          rw [hz] at n2
          exact .inr ⟨_, h', by simp [l0__law_args, hne, n2], rfl, b1, x1⟩
        | false =>
          rw [hz] at n2
          obtain ⟨a, h2, e2, b2, x2, ha⟩ := pick_arr b1 k1 hl hz
          have ea := arrays_ok k1 hl
          refine .inl ⟨[some (.ref 1), some (.d (enPs ps)), some (.ref p), some (.d (.tuple (ts ++ [.tuple [.str "array", .str a]]))), some (.str qn), some (.str "array")], h2, .inl ?_, ts ++ [.tuple [.str "array", .str a]], _, _, rfl, b2, x1.trans x2, a1.snoc (.arr qn a ha), by simp [hlen]⟩
          have hadd : opAdd (.d (.tuple ts)) (.d (.tuple [.tuple [.str "array", .str a]])) h2 = some (.d (.tuple (ts ++ [.tuple [.str "array", .str a]])), h2) := by
            have : mkTup (ts.map W.d ++ [W.d (.tuple [.str "array", .str a])]) = .d (.tuple (ts ++ [.tuple [.str "array", .str a]])) := by rw [← mkTup_map (ts ++ _)]; simp
            simp [opAdd, this, sizeMax]; omega
          simp [l0__law_args, hne, n2, ea, e2, sizeMax, mkTup_d1, mkTup_d2, hadd])
    (L := [some (.ref 1), some (.d (enPs ps)), some (.ref p), some (.d (.tuple [])), none, none]) (h := h) ⟨[], _, _, rfl, b, .refl, .nil, rfl⟩
  have done : ∃ x h', b__law_args [some (.ref 1), some (.d (enPs ps)), some (.ref p), none, none, none] h = .rt (.d x) h' ∧ Bd ds h' ∧ Ex h h' ∧ (x = .none ∨ ∃ ts, x = .tuple ts ∧ ArgsK kn ps ts) := by
    have hm : (ps.map enP).map W.d = ps.map fun q => W.d (enP q) := by simp
    have hi : iSeq (eVar 1) [some (.ref 1), some (.d (enPs ps)), some (.ref p), some (.d (.tuple [])), none, none] h = .ok (.tp (ps.map fun q => W.d (enP q))) h := by
      rw [← hm]; simp
    rw [hm] at loop
    rcases loop with ⟨L2, h2, e2, ts, y4, y5, rfl, b2, x2, a2, hlen⟩ | ⟨w, h2, e2, rfl, b2, x2⟩
    · exact ⟨.tuple ts, h2, by simp only [b__law_args, sCons_eq, sAsg_eq, eTup_eq, aNil_eq, R.bind_ok, List.length_nil, Nat.zero_le, if_true, mkTup_d0, R.then_ok, put_nm, List.set_cons_succ, List.set_cons_zero, Out.seq_nx, sFor_eq, hi, items_tp, e2, sRet_eq, eVar_eq, List.getElem?_cons_succ, List.getElem?_cons_zero, Out.seq_rt], b2, x2, .inr ⟨ts, rfl, a2⟩⟩
    · exact ⟨.none, h2, by simp only [b__law_args, sCons_eq, sAsg_eq, eTup_eq, aNil_eq, R.bind_ok, List.length_nil, Nat.zero_le, if_true, mkTup_d0, R.then_ok, put_nm, List.set_cons_succ, List.set_cons_zero, Out.seq_nx, sFor_eq, hi, items_tp, e2, Out.seq_rt], b2, x2, .inl rfl⟩
  obtain ⟨x, h2, e, b2, x2, t⟩ := done
  obtain ⟨h3, e3, b3, x3⟩ := fn_d (n := 3) (k := 6) (body := b__law_args) (ws := [.ref 1, .d (enPs ps), .ref p]) rfl b b2 x2 e
  exact ⟨x, h3, e3, b3, x3, t⟩
end
end Sp
end

section
/-! SpP4: values, bodies, promises. -/
namespace Sp
open Mi Sem
open PySem (PyData Str)
abbrev Head := Str × List (Str × Str)
abbrev enH (x : Head) : PyData := .tuple [.str x.1, enPs x.2]
/-- at q stand the heads -/
structure Hds (h : Hh) (q : Nat) (hs : List Head) : Prop where
  at_ : h[q]? = some (.lst (hs.map fun x => W.d (enH x)))
  ne : q ≠ 1
  some_ : hs ≠ []
  kinds : ∀ x ∈ hs, KindsOk x.2 ∧ x.2.length < 1000
section
variable {ds : List Int} {h h' : Hh} {w : W} {p q : Nat} {kn : List (Str × Str)} {hs : List Head}
theorem Hds.mono (k : Hds h q hs) (e : Ex h h') : Hds h' q hs := ⟨e.2 _ _ k.ne k.at_, k.ne, k.some_, k.kinds⟩
inductive ValueK (hs : List Head) (kn : List (Str × Str)) : PyData → Prop
  | at_ (a : Str) (t : PyData) : (a, Str.ofString "array") ∈ kn → TermK kn t → ValueK hs kn (.tuple [.str "at", .str a, t])
  | call (x : Head) (ts : List PyData) : x ∈ hs → ArgsK kn x.2 ts → ValueK hs kn (.tuple [.str "call", .str x.1, .tuple ts])
  | any : ValueK hs kn (.tuple [.str "any"])
  | middle (a b : PyData) : TermK kn a → TermK kn b → ValueK hs kn (.tuple [.str "middle", a, b])
  | term (t : PyData) : TermK kn t → ValueK hs kn t
theorem value_ok (b : Bd ds h) (k : Kn h p kn) (hl : kn.length < 64) (g : Hds h q hs) : ∃ x h', m__law_value [.ref 1, .ref q, .ref p] h = .ok (.d x) h' ∧ Bd ds h' ∧ Ex h h' ∧ ValueK hs kn x := by
  obtain ⟨i, h1, e1, b1, x1, i0, i1⟩ := draw (many := 9) b (by omega)
  have k1 := k.mono x1
  have g1 := g.mono x1
  have n1 := arrays_ne (i := 2) (L := [some (.ref 1), some (.ref q), some (.ref p), some (.int i), none, none, none, none]) k1 hl rfl
  have done : ∃ x h', b__law_value [some (.ref 1), some (.ref q), some (.ref p), none, none, none, none, none] h = .rt (.d x) h' ∧ Bd ds h' ∧ Ex h h' ∧ ValueK hs kn x := by
    by_cases c1 : i < 2 ∧ (namesOf "array" kn).isEmpty = false
    · obtain ⟨c1, c2⟩ := c1
      obtain ⟨a, h2, e2, b2, x2, ha⟩ := pick_arr b1 k1 hl c2
      obtain ⟨t, h3, e3, b3, x3, ht⟩ := term_ok b2 (k1.mono x2) hl
      have ei := arrays_ok k1 hl
      rw [c2] at n1
      exact ⟨_, h3, by simp [b__law_value, e1, c1, n1, ei, e2, e3, sizeMax, mkTup_d3], b3, x1.trans (x2.trans x3), .at_ a t ha ht⟩
    · have t1 : i < 2 → tGc (tVal (eOp2 opNe (eCall m__law_arrays (aCons (eVar 2) aNil)) (eLst aNil))) [some (.ref 1), some (.ref q), some (.ref p), some (.int i), none, none, none, none] h1 = .ok false h1 := fun z => by
        have y : (namesOf "array" kn).isEmpty = true := by
          cases y : (namesOf "array" kn).isEmpty
          · exact absurd ⟨z, y⟩ c1
          · rfl
        rw [y] at n1
        exact n1
      by_cases c2 : i < 6
      · obtain ⟨w, h2, e2, b2, x2, hw⟩ := pick_lst b1 g1.at_ g.ne (by simp [g.some_])
        obtain ⟨x, hx, rfl⟩ := List.mem_map.mp hw
        obtain ⟨y, h3, e3, b3, x3, hy⟩ := args_ok (ps := x.2) b2 (k1.mono x2) hl (g.kinds x hx).1 (g.kinds x hx).2
        rcases hy with rfl | ⟨ts, rfl, ha⟩
        · obtain ⟨t, h4, e4, b4, x4, ht⟩ := term_ok b3 ((k1.mono x2).mono x3) hl
          have z6 : ¬ i = 6 := by omega
          have z7 : ¬ i = 7 := by omega
          refine ⟨t, h4, ?_, b4, x1.trans (x2.trans (x3.trans x4)), .term t ht⟩
          by_cases z : i < 2
          · have t1 := t1 z
            simp [b__law_value, e1, z, t1, c2, e2, enH, setAll, e3, e4, z6, z7, opIsN, isN]
          · simp [b__law_value, e1, z, c2, e2, enH, setAll, e3, e4, z6, z7, opIsN, isN]
        · refine ⟨_, h3, ?_, b3, x1.trans (x2.trans x3), .call x ts hx ha⟩
          by_cases z : i < 2
          · have t1 := t1 z
            simp [b__law_value, e1, z, t1, c2, e2, enH, setAll, e3, opIsN, isN, sizeMax, mkTup_d3]
          · simp [b__law_value, e1, z, c2, e2, enH, setAll, e3, opIsN, isN, sizeMax, mkTup_d3]
      · by_cases z6 : i = 6
        · subst z6
          refine ⟨_, h1, ?_, b1, x1, .any⟩
          simp [b__law_value, e1, sizeMax, mkTup_d1]
        · by_cases z7 : i = 7
          · subst z7
            obtain ⟨t, h4, e4, b4, x4, ht⟩ := term_ok b1 k1 hl
            obtain ⟨u, h5, e5, b5, x5, hu⟩ := term_ok b4 (k1.mono x4) hl
            exact ⟨_, h5, by simp [b__law_value, e1, e4, e5, sizeMax, mkTup_d3], b5, x1.trans (x4.trans x5), .middle t u ht hu⟩
          · obtain ⟨t, h4, e4, b4, x4, ht⟩ := term_ok b1 k1 hl
            have z2 : ¬ i < 2 := by omega
            exact ⟨t, h4, by simp [b__law_value, e1, e4, c2, z2, z6, z7], b4, x1.trans x4, .term t ht⟩
  obtain ⟨x, h2, e, b2, x2, t⟩ := done
  obtain ⟨h3, e3, b3, x3⟩ := fn_d (n := 3) (k := 8) (body := b__law_value) (ws := [.ref 1, .ref q, .ref p]) rfl b b2 x2 e
  exact ⟨x, h3, e3, b3, x3, t⟩
/-! ### bodies -/
def putS (kn : List (Str × Str)) (n v : Str) : List (Str × Str) := if kn.any (fun kv => decide (kv.1 = n)) then kn.map fun kv => if kv.1 = n then (kv.1, v) else kv else kn ++ [(n, v)]
theorem put_kn {n v : Str} : put (kn.map enK) (.inr n) (W.str v) = (putS kn n v).map enK := by
  have hc : ∀ kv : Str × Str, decide ((enK kv).1 = (Sum.inr n : Key)) = decide (kv.1 = n) := fun kv => by simp [enK]
  unfold put putS
  rw [List.any_map]
  have ha : (kn.any ((fun kv => decide (kv.1 = (Sum.inr n : Key))) ∘ enK)) = kn.any fun kv => decide (kv.1 = n) := by
    congr 1
    funext kv
    exact hc kv
  rw [ha]
  by_cases c : (kn.any fun kv => decide (kv.1 = n)) = true
  · rw [if_pos c, if_pos c, List.map_map, List.map_map]
    apply List.map_congr_left
    intro kv _
    simp only [Function.comp_apply]
    by_cases e : kv.1 = n
    · rw [if_pos e, if_pos (by simp [enK, e])]
    · rw [if_neg e, if_neg (by simp [enK, e])]
  · rw [if_neg c, if_neg c]
    simp [enK]
theorem putS_len {n v : Str} : (putS kn n v).length ≤ kn.length + 1 := by
  unfold putS
  split <;> simp
theorem putS_keys {n v : Str} (hnd : (kn.map (·.1)).Nodup) : ((putS kn n v).map (·.1)).Nodup := by
  unfold putS
  split
  · rw [List.map_map]
    have : ((fun x : Str × Str => x.1) ∘ fun kv : Str × Str => if kv.1 = n then (kv.1, v) else kv) = fun x => x.1 := by
      funext kv
      simp only [Function.comp_apply]
      split <;> rfl
    rw [this]; exact hnd
  · rename_i c
    rw [List.map_append, List.nodup_append]
    refine ⟨hnd, by simp, fun a ha b hb => ?_⟩
    simp at hb
    subst hb
    obtain ⟨kv, h1, rfl⟩ := List.mem_map.mp ha
    intro e
    apply c
    exact List.any_eq_true.mpr ⟨kv, h1, by simp [e]⟩
theorem putS_mem {n v : Str} {kv : Str × Str} (hm : kv ∈ putS kn n v) : kv = (n, v) ∨ (kv ∈ kn ∧ kv.1 ≠ n) := by
  unfold putS at hm
  split at hm
  · obtain ⟨x, h1, h2⟩ := List.mem_map.mp hm
    split at h2
    · rename_i e; subst h2; left; rw [e]
    · rename_i e; subst h2; exact .inr ⟨h1, e⟩
  · rename_i c
    rcases List.mem_append.mp hm with h | h
    · right
      refine ⟨h, fun e => c (List.any_eq_true.mpr ⟨kv, h, by simp [e]⟩)⟩
    · left; simpa using h
inductive BodyK (hs : List Head) : List (Str × Str) → Nat → PyData → Prop
  | never (kn : List (Str × Str)) (d : Nat) : BodyK hs kn d (.tuple [.str "never"])
  | give (kn : List (Str × Str)) (d : Nat) (t : PyData) : TermK kn t → BodyK hs kn d (.tuple [.str "give", t])
  | if_ (kn : List (Str × Str)) (d : Nat) (c x y : PyData) : CondK kn c → BodyK hs kn d x → BodyK hs kn d y → BodyK hs kn (d + 1) (.tuple [.str "if", c, x, y])
  | claim (kn : List (Str × Str)) (d : Nat) (c x : PyData) : CondK kn c → BodyK hs kn d x → BodyK hs kn (d + 1) (.tuple [.str "claim", c, x])
  | put (kn : List (Str × Str)) (d : Nat) (a : Str) (t u x : PyData) : (a, Str.ofString "array") ∈ kn → TermK kn t → TermK kn u → BodyK hs kn d x → BodyK hs kn (d + 1) (.tuple [.str "put", .str a, t, u, x])
  | let_ (kn : List (Str × Str)) (d : Nat) (n : Str) (v x : PyData) : n ∈ ([Str.ofString "u", Str.ofString "v", Str.ofString "x", Str.ofString "w"] : List Str) → (n, Str.ofString "array") ∉ kn → ValueK hs kn v → BodyK hs (putS kn n "int") d x → BodyK hs kn (d + 1) (.tuple [.str "let", .str n, v, x])
end
end Sp
end

section
/-! SpP5: bodies. -/
namespace Sp
open Mi Sem
open PySem (PyData Str)
section
variable {ds : List Int} {h h' : Hh} {w : W} {p q : Nat} {kn : List (Str × Str)} {hs : List Head}
@[simp] theorem eGet1_eq (o a : EM) (L : Loc) (h : Hh) : eGet1 o a L h = (o L h).bind fun x h => if isDct h x = true then (a L h).bind fun y h => .of (opGet1 x y h) else .bad := (rfl)
theorem Ex.set {a : Nat} {o : O} (x : Ex h h') (ha : h.length ≤ a) : Ex h (h'.set a o) := ⟨by simpa using x.1, fun i u n e => by
  have hi := (List.getElem?_eq_some_iff.mp e).1
  rw [List.getElem?_set_ne (by omega)]
  exact x.2 i u n e⟩
theorem Bd.set {a : Nat} {o : O} (b : Bd ds h) (ha : 2 ≤ a) : Bd ds (h.set a o) := by
  obtain ⟨k, T, rfl⟩ := b
  refine ⟨k, T.set (a - 2) o, ?_⟩
  rw [List.set_append_right _ _ (by simpa [Bx] using ha)]
  rfl
@[simp] theorem eq_none_str (neg : Bool) (y : Str) (M : Hh) : opEqB neg (.d .none) (.d (.str y)) M = some (.bool neg, M) := by
  have : PyData.eqv .none (.str y) = false := by simp [PyData.eqv]
  simp [opEqB, PyData.depth, this, dataW, roomDeep]
theorem dict_kn (k : Kn h p kn) : bDict2 [.ref p] h = some (.ref h.length, h ++ [.dk (kn.map enK)]) := by
  simp [bDict2, bDict, k.at_]
theorem find_kn (k : Kn h p kn) {n v : Str} (hm : (n, v) ∈ kn) : (kn.find? fun kv => decide (kv.1 = n)) = some (n, v) := by
  have nd := k.nd
  clear k
  induction kn with
  | nil => simp at hm
  | cons kv kn ih =>
    rw [List.map_cons, List.nodup_cons] at nd
    rw [List.find?_cons]
    rcases List.mem_cons.mp hm with rfl | hm
    · simp
    · have hne : kv.1 ≠ n := fun e => nd.1 (by rw [e]; exact List.mem_map.mpr ⟨_, hm, rfl⟩)
      rw [decide_eq_false hne]
      exact ih hm nd.2
theorem get_kn (k : Kn h p kn) (n : Str) : ∃ w, opGet1 (.ref p) (.d (.str n)) h = some (w, h) ∧ ((∃ v, w = W.str v ∧ (n, v) ∈ kn) ∨ (w = .d .none ∧ ∀ v, (n, v) ∉ kn)) := by
  cases hf : kn.find? fun kv => decide (kv.1 = n) with
  | some kv =>
    have h1 := List.mem_of_find?_eq_some hf
    have h2 : kv.1 = n := by simpa using List.find?_some hf
    refine ⟨W.str kv.2, ?_, .inl ⟨kv.2, rfl, by rw [← h2]; exact h1⟩⟩
    simp only [opGet1, k.at_, dget, keyW, Option.map_some, look_kn, hf, Option.getD_some]
  | none =>
    refine ⟨.d .none, ?_, .inr ⟨rfl, fun v hv => ?_⟩⟩
    · simp only [opGet1, k.at_, dget, keyW, Option.map_some, look_kn, hf, Option.map_none, Option.getD_none]
    · have := find_kn k hv
      rw [hf] at this; cases this
theorem isDct_kn (k : Kn h p kn) : isDct h (.ref p) = true := by simp [isDct, k.at_]
abbrev lB (q p d : Nat) (x4 : Option W) : Loc := [some (.ref 1), some (.ref q), some (.ref p), some (.int (d : Int)), x4, none, none, none, none, none, none, none, none]
theorem body_ok : ∀ (n d : Nat), d < n → ∀ {h : Hh} {p q : Nat} {kn : List (Str × Str)}, Bd ds h → Kn h p kn → kn.length + d < 64 → Hds h q hs → (Str.ofString "w", Str.ofString "array") ∉ kn →
    ∃ x h', m__law_body n [.ref 1, .ref q, .ref p, .d (.int (d : Int))] h = .ok (.d x) h' ∧ Bd ds h' ∧ Ex h h' ∧ BodyK hs kn d x
  | 0, d, hd, h, p, q, kn, b, k, hl, g, hw => absurd hd (Nat.not_lt_zero _)
  | n + 1, d, hd, h, p, q, kn, b, k, hl, g, hw => by
    have hl0 : kn.length < 64 := by omega
    obtain ⟨i, h1, e1, b1, x1, i0, i1⟩ := draw (many := 12) b (by omega)
    have k1 := k.mono x1
    have g1 := g.mono x1
    have n1 := arrays_ne (i := 2) (L := lB q p d (some (.int i))) k1 hl0 rfl
    have done : ∃ x h', b__law_body (m__law_body n) (lB q p d none) h = .rt (.d x) h' ∧ Bd ds h' ∧ Ex h h' ∧ BodyK hs kn d x := by
      by_cases c0 : d = 0 ∨ i < 2
      · obtain ⟨j, h2, e2, b2, x2, j0, j1⟩ := draw (many := 25) b1 (by omega)
        by_cases c1 : j = 1
        · subst c1
          refine ⟨_, h2, ?_, b2, x1.trans x2, .never kn d⟩
          rcases c0 with rfl | c0
          · simp [b__law_body, lB, e1, e2, sizeMax, mkTup_d1]
          · simp [b__law_body, lB, e1, e2, c0, sizeMax, mkTup_d1]
        · obtain ⟨t, h3, e3, b3, x3, ht⟩ := term_ok b2 (k1.mono x2) hl0
          refine ⟨_, h3, ?_, b3, x1.trans (x2.trans x3), .give kn d t ht⟩
          rcases c0 with rfl | c0
          · simp [b__law_body, lB, e1, e2, c1, e3, sizeMax, mkTup_d2]
          · simp [b__law_body, lB, e1, e2, c0, c1, e3, sizeMax, mkTup_d2]
      · obtain ⟨d, rfl⟩ : ∃ m, d = m + 1 := ⟨d - 1, by omega⟩
        have hi2 : ¬ i < 2 := fun z => c0 (.inr z)
        have hd0 : ¬ ((d + 1 : Nat) : Int) = 0 := by omega
        have hd1 : ((d + 1 : Nat) : Int) - 1 = (d : Int) := by omega
        have F := fun {h p kn} => body_ok n d (by omega) (h := h) (p := p) (q := q) (kn := kn)
        have hd0' : ¬ (d : Int) + 1 = 0 := by omega
        by_cases c1 : i < 6
        · obtain ⟨c, h2, e2, b2, x2, hc⟩ := cond_ok b1 k1 hl0
          obtain ⟨x, h3, e3, b3, x3, hx⟩ := F b2 (k1.mono x2) (by omega) (g1.mono x2) hw
          obtain ⟨y, h4, e4, b4, x4, hy⟩ := F b3 ((k1.mono x2).mono x3) (by omega) ((g1.mono x2).mono x3) hw
          exact ⟨_, h4, by simp [b__law_body, lB, e1, hi2, hd0', c1, e2, e3, e4, sizeMax, mkTup_d4], b4, x1.trans (x2.trans (x3.trans x4)), .if_ kn d c x y hc hx hy⟩
        · by_cases c2 : i = 6
          · subst c2
            obtain ⟨c, h2, e2, b2, x2, hc⟩ := cond_ok b1 k1 hl0
            obtain ⟨x, h3, e3, b3, x3, hx⟩ := F b2 (k1.mono x2) (by omega) (g1.mono x2) hw
            exact ⟨_, h3, by simp [b__law_body, lB, e1, hd0', e2, e3, sizeMax, mkTup_d3], b3, x1.trans (x2.trans x3), .claim kn d c x hc hx⟩
          · by_cases c3 : i = 7 ∧ (namesOf "array" kn).isEmpty = false
            · obtain ⟨c3, c4⟩ := c3
              subst c3
              obtain ⟨a, h2, e2, b2, x2, ha⟩ := pick_arr b1 k1 hl0 c4
              obtain ⟨t, h3, e3, b3, x3, ht⟩ := term_ok b2 (k1.mono x2) hl0
              obtain ⟨u, h4, e4, b4, x4, hu⟩ := term_ok b3 ((k1.mono x2).mono x3) hl0
              obtain ⟨x, h5, e5, b5, x5, hx⟩ := F b4 (((k1.mono x2).mono x3).mono x4) (by omega) (((g1.mono x2).mono x3).mono x4) hw
              have ea := arrays_ok k1 hl0
              rw [c4] at n1
              exact ⟨_, h5, by simp [lB] at n1; simp [b__law_body, lB, e1, hd0', n1, ea, e2, e3, e4, e5, sizeMax, mkTup_d5], b5, x1.trans (x2.trans (x3.trans (x4.trans x5))), .put kn d a t u x ha ht hu hx⟩
            · obtain ⟨v, h2, e2, b2, x2, hv⟩ := value_ok b1 k1 hl0 g1
              obtain ⟨w, h3, e3, b3, x3, hw3⟩ := pick_lst (ws := [W.str "u", W.str "v", W.str "x"]) (a := h2.length) (b2.app (T := [.lst [W.str "u", W.str "v", W.str "x"]])) (by simp) (by have := b2.len; omega) (by simp)
              obtain ⟨nm, rfl, hnm⟩ : ∃ nm : Str, w = W.str nm ∧ nm ∈ ([Str.ofString "u", Str.ofString "v", Str.ofString "x", Str.ofString "w"] : List Str) := by
                simp at hw3
                rcases hw3 with rfl | rfl | rfl <;> exact ⟨_, rfl, by simp⟩
              have k3 := ((k1.mono x2).mono (Ex.app.trans x3))
              have g3 := ((g1.mono x2).mono (Ex.app.trans x3))
              have xx : Ex h h3 := x1.trans (x2.trans (Ex.app.trans x3))
              have ed := dict_kn k3
              have k4 : Kn (h3 ++ [.dk (kn.map enK)]) p kn := k3.mono .app
              obtain ⟨r, er, hr⟩ := get_kn k4 nm
              have idk := isDct_kn k4
              -- the name that is bound
              obtain ⟨nm', hn', hn2, hbr⟩ : ∃ nm' : Str, nm' ∈ ([Str.ofString "u", Str.ofString "v", Str.ofString "x", Str.ofString "w"] : List Str) ∧ (nm', Str.ofString "array") ∉ kn ∧
                  ((r = W.str "array" ∧ nm' = Str.ofString "w") ∨ (opEqB false r (.d (.str "array")) (h3 ++ [.dk (kn.map enK)]) = some (.bool false, h3 ++ [.dk (kn.map enK)]) ∧ nm' = nm)) := by
                rcases hr with ⟨v', rfl, hm⟩ | ⟨rfl, hm⟩
                · by_cases z : v' = Str.ofString "array"
                  · subst z; exact ⟨_, by simp, hw, .inl ⟨rfl, rfl⟩⟩
                  · refine ⟨nm, hnm, fun hz => z ?_, .inr ⟨by simp [z], rfl⟩⟩
                    have a1 := find_kn k4 hm
                    have a2 := find_kn k4 hz
                    rw [a1] at a2; simpa using a2
                · exact ⟨nm, hnm, hm _, .inr ⟨by simp, rfl⟩⟩
              have hset : ∀ nm' : Str, setIx (.ref h3.length) (.d (.str nm')) (W.str "int") (h3 ++ [.dk (kn.map enK)]) = some (h3 ++ [.dk ((putS kn nm' "int").map enK)]) := fun nm' => by
                have : (h3 ++ [O.dk (kn.map enK)])[h3.length]? = some (.dk (kn.map enK)) := by simp
                simp only [setIx, this, keyW, List.length_map]
                rw [if_pos (by simp only [sizeMax]; omega), put_kn]
                simp
              have b5 : Bd ds (h3 ++ [.dk ((putS kn nm' "int").map enK)]) := b3.app
              have k5 : Kn (h3 ++ [.dk ((putS kn nm' "int").map enK)]) h3.length (putS kn nm' "int") := ⟨by simp, by have := b3.len; omega, fun kv hkv => by
                rcases putS_mem hkv with rfl | ⟨h6, _⟩
                · simp at hn'; rcases hn' with rfl | rfl | rfl | rfl <;> decide +kernel
                · exact k.ok kv h6, putS_keys k.nd⟩
              obtain ⟨x, h6, e6, b6, x6, hx⟩ := F b5 k5 (by have := putS_len (kn := kn) (n := nm') (v := "int"); omega) (g3.mono .app) (by
                intro hz
                rcases putS_mem hz with hz | ⟨hz, _⟩
                · have := congrArg Prod.snd hz
                  exact absurd this (by simp; decide +kernel)
                · exact hw hz)
              refine ⟨_, h6, ?_, b6, xx.trans (Ex.app.trans x6), .let_ kn d nm' v x hn' hn2 hv hx⟩
              have t7 : i = 7 → tGc (tVal (eOp2 opNe (eCall m__law_arrays (aCons (eVar 2) aNil)) (eLst aNil))) (lB q p (d + 1) (some (.int i))) h1 = .ok false h1 := fun z => by
                have y : (namesOf "array" kn).isEmpty = true := by
                  cases y : (namesOf "array" kn).isEmpty
                  · exact absurd ⟨z, y⟩ c3
                  · rfl
                rw [y] at n1
                exact n1
              have hset := hset nm'
              by_cases z : i = 7
              · have t7 := t7 z
                subst z
                simp [lB] at t7
                rcases hbr with ⟨rfl, rfl⟩ | ⟨hbr, rfl⟩
                · simp [b__law_body, lB, e1, hd0', t7, e2, e3, ed, er, idk, hset, e6, sizeMax, mkTup_d4]
                · simp [b__law_body, lB, e1, hd0', t7, e2, e3, ed, er, idk, hbr, hset, e6, sizeMax, mkTup_d4]
              · rcases hbr with ⟨rfl, rfl⟩ | ⟨hbr, rfl⟩
                · simp [b__law_body, lB, e1, hd0', hi2, c1, c2, z, e2, e3, ed, er, idk, hset, e6, sizeMax, mkTup_d4]
                · simp [b__law_body, lB, e1, hd0', hi2, c1, c2, z, e2, e3, ed, er, idk, hbr, hset, e6, sizeMax, mkTup_d4]
    obtain ⟨x, h2, e, b2, x2, t⟩ := done
    obtain ⟨h3, e3, b3, x3⟩ := fn_d (n := 4) (k := 13) (body := b__law_body (m__law_body n)) (ws := [.ref 1, .ref q, .ref p, .d (.int (d : Int))]) rfl b b2 x2 e
    exact ⟨x, h3, e3, b3, x3, t⟩
end
end Sp
end

section
/-! SpP6: promises, drawn programs. -/
namespace Sp
open Mi Sem
open PySem (PyData Str)
abbrev enQ (t : Int × Int × Int) : PyData := .tuple [.int t.1, .int t.2.1, .int t.2.2]
/-- promises over m places -/
abbrev PromsOk (m : Int) (ts : List (Int × Int × Int)) : Prop := ∀ t ∈ ts, (0 ≤ t.1 ∧ t.1 < m) ∧ (0 ≤ t.2.1 ∧ t.2.1 < m) ∧ t.1 ≠ t.2.1 ∧ -1 ≤ t.2.2 ∧ t.2.2 ≤ 1
section
variable {ds : List Int} {h h' : Hh} {w : W} {p q : Nat} {kn : List (Str × Str)} {hs : List Head}
/-- the end of a def that returns data, tidied -/
theorem app_lst2 {ws : List W} {x : W} (ha : h[p]? = some (.lst ws)) (hl : ws.length < 16777216) : mAppend [.ref p, x] h = some (.non, h.set p (.lst (ws ++ [x]))) := by
  simp only [mAppend, ha, sizeMax, hl, if_true]
theorem proms_ok {m : Int} (b : Bd ds h) (hm : 1 ≤ m) : ∃ ts h', m__law_promises [.ref 1, .d (.int m)] h = .ok (.d (.tuple (ts.map enQ))) h' ∧ Bd ds h' ∧ Ex h h' ∧ PromsOk m ts ∧ ts.length ≤ 2 := by
  obtain ⟨i, h1, e1, b1, x1, i0, i1⟩ := draw (many := 3) (b.app (T := [.lst []])) (by omega)
  have hlst : h1[h.length]? = some (.lst []) := x1.2 _ _ (by have := b.len; omega) (by simp)
  obtain ⟨n, hn, hn1⟩ : ∃ n : Nat, i * (if m > 1 then 1 else 0) = n ∧ (m ≤ 1 → n = 0) ∧ n ≤ 2 := by
    by_cases c : m > 1
    · exact ⟨i.toNat, by rw [if_pos c]; omega, by omega, by omega⟩
    · exact ⟨0, by rw [if_neg c]; omega, by omega, by omega⟩
  obtain ⟨L2, h2, e2, ts, y3, y4, y5, rfl, b2, x2, hp, hl, hat⟩ := forL_num (ok := (Src.rg 0 n).ok) (g := .nm 3) (body := l0__law_promises) (n := n)
    (fun j L h' => ∃ ts y3 y4 y5, L = [some (.ref 1), some (.d (.int m)), some (.ref h.length), y3, y4, y5] ∧ Bd ds h' ∧ Ex h h' ∧ PromsOk m ts ∧ ts.length = j ∧ h'[h.length]? = some (.lst (ts.map fun t => W.d (enQ t)))) (fun _ _ _ _ => trivial)
    (fun j L h2 hj ⟨ts, y3, y4, y5, eL, b2, x2, hp, hl, hat⟩ => by
      subst eL
      have hm2 : 1 < m := by
        rcases Int.lt_or_le 1 m with z | z
        · exact z
        · have := hn1.1 z; omega
      obtain ⟨a, h3, e3, b3, x3, a0, a1⟩ := draw (many := m) b2 (by omega)
      obtain ⟨c, h4, e4, b4, x4, c0, c1⟩ := draw (many := m - 1) b3 (by omega)
      obtain ⟨d, h5, e5, b5, x5, d0, d1⟩ := draw (many := 3) b4 (by omega)
      have hat5 : h5[h.length]? = some (.lst (ts.map fun t => W.d (enQ t))) := (x3.trans (x4.trans x5)).2 _ _ (by have := b.len; omega) hat
      have hmod := mod_ok (i := a + 1 + c) (j := m) (M := h4) (by omega)
      have hj0 := Int.emod_nonneg (a + 1 + c) (show m ≠ 0 by omega)
      have hj1 := Int.emod_lt_of_pos (a + 1 + c) (show (0 : Int) < m by omega)
      have hne : a ≠ (a + 1 + c) % m := by
        intro z
        have h9 := Int.emod_add_mul_ediv (a + 1 + c) m
        rw [← z] at h9
        have hq : m * ((a + 1 + c) / m) = 1 + c := by omega
        rcases Int.lt_or_le 0 ((a + 1 + c) / m) with z1 | z1
        · have : m * 1 ≤ m * ((a + 1 + c) / m) := Int.mul_le_mul_of_nonneg_left (by omega) (by omega)
          omega
        · have : m * ((a + 1 + c) / m) ≤ m * 0 := Int.mul_le_mul_of_nonneg_left z1 (by omega)
          omega
      have hap := app_lst2 (h := h5) (p := h.length) (ws := ts.map fun t => W.d (enQ t)) (x := W.d (enQ (a, (a + 1 + c) % m, d - 1))) hat5 (by simp; omega)
      have hisl : isLst h2 (.ref h.length) = true := by simp [isLst, hat]
      have hisl4 : isLst h4 (.ref h.length) = true := by simp [isLst, (x3.trans x4).2 _ _ (by have := b.len; omega) hat]
      refine ⟨_, rfl, [some (.ref 1), some (.d (.int m)), some (.ref h.length), some (.int (j : Int)), some (.int a), some (.int ((a + 1 + c) % m))], h5.set h.length (.lst ((ts ++ [(a, (a + 1 + c) % m, d - 1)]).map fun t => W.d (enQ t))), .inl ?_, ts ++ [(a, (a + 1 + c) % m, d - 1)], _, _, _, rfl, b5.set b.len, (x2.trans (x3.trans (x4.trans x5))).set (Nat.le_refl _), ?_, by simp [hl], ?_⟩
      · simp [l0__law_promises, e3, e4, hmod, hisl4, e5, sizeMax, mkTup_d3, hap]
      · intro t ht
        rcases List.mem_append.mp ht with ht | ht
        · exact hp t ht
        · simp at ht; subst ht; exact ⟨⟨a0, a1⟩, ⟨hj0, hj1⟩, hne, by simp; omega, by simp; omega⟩
      · have := (x2.trans (x3.trans (x4.trans x5))).1
        rw [List.getElem?_set_self (by have := (List.getElem?_eq_some_iff.mp hat5).1; omega)])
    (L := [some (.ref 1), some (.d (.int m)), some (.ref h.length), none, none, none]) (h := h1) ⟨[], none, none, none, rfl, b1, Ex.app.trans x1, by intro t ht; simp at ht, rfl, hlst⟩
  have done : b__law_promises [some (.ref 1), some (.d (.int m)), none, none, none, none] h = .rt (.d (.tuple (ts.map enQ))) h2 := by
    have hmul : opMul (.d (.int i)) (.d (.int (if m > 1 then 1 else 0))) h1 = some (.int (n : Int), h1) := by
      rw [mul_ok (by split <;> omega), hn]
    have htup : bTuple [.ref h.length] h2 = some (.d (.tuple (ts.map enQ)), h2) := by
      have : mkTup (ts.map fun t => W.d (enQ t)) = .d (.tuple (ts.map enQ)) := by rw [← mkTup_map, List.map_map]; rfl
      simp only [bTuple, hat, this]
    have hint : bInt [.d (.bool (decide (m > 1)))] h1 = some (.int (if m > 1 then 1 else 0), h1) := by
      simp [bInt]
    have hb : (n : Int) < 4611686018427387904 := by omega
    have hb2 : -4611686018427387904 ≤ (n : Int) := by omega
    simp [hint] at hmul ⊢
    simp [b__law_promises, sizeMax, e1, bInt, hmul, hb, hb2, e2, htup]
  obtain ⟨h3, e3, b3, x3⟩ := fn_d (n := 2) (k := 6) (body := b__law_promises) (ws := [.ref 1, .d (.int m)]) rfl b b2 x2 done
  exact ⟨ts, h3, e3, b3, x3, hp, by omega⟩
end
end Sp
end

section
/-! SpP7: comprehensions that draw; the parameters of a drawn program. -/
namespace Sp
open Mi Sem
open PySem (PyData Str)
inductive All2 {α β : Type} (P : α → β → Prop) : List α → List β → Prop
  | nil : All2 P [] []
  | cons {x : α} {y : β} {xs : List α} {ys : List β} : P x y → All2 P xs ys → All2 P (x :: xs) (y :: ys)
theorem All2.length {α β : Type} {P : α → β → Prop} {xs : List α} {ys : List β} (a : All2 P xs ys) : xs.length = ys.length := by
  induction a with
  | nil => rfl
  | cons _ _ ih => simp [ih]
theorem All2.get {α β : Type} {P : α → β → Prop} {xs : List α} {ys : List β} (a : All2 P xs ys) : ∀ (i : Nat) (x : α), xs[i]? = some x → ∃ y, ys[i]? = some y ∧ P x y := by
  induction a with
  | nil => intro i x h; simp at h
  | cons h1 _ ih =>
    intro i x h
    cases i with
    | zero => simp at h; subst h; exact ⟨_, rfl, h1⟩
    | succ i => simpa using ih i x (by simpa using h)
theorem All2.imp {α β : Type} {P Q : α → β → Prop} (hi : ∀ x y, P x y → Q x y) {xs : List α} {ys : List β} (a : All2 P xs ys) : All2 Q xs ys := by
  induction a with
  | nil => exact .nil
  | cons h1 _ ih => exact .cons (hi _ _ h1) ih
section
variable {ds : List Int} {h h' : Hh} {w : W} {p q : Nat} {kn : List (Str × Str)} {hs : List Head}
/-- a comprehension whose elements draw -/
theorem eComp_bd {α : Type} {i : IM} {vs : List Nat} {g : Tg} {e : EM} {L : Loc} {enc : α → W} {s : Src} {P : α → PyData → Prop} {xs : List α} (b : Bd ds h) (hi : i L h = .ok s h) (hs : s.items = xs.map enc) (hok : ∀ h', Ex h h' → s.ok h') (hl : xs.length ≤ 1000)
    (hx : ∀ x ∈ xs, ∃ L1, g.put (enc x) (wipeL L vs) = some L1 ∧ ∀ h', Bd ds h' → Ex h h' → ∃ y h'', e L1 h' = .ok (.d y) h'' ∧ Bd ds h'' ∧ Ex h' h'' ∧ P x y) :
    ∃ ys h', eComp i vs g tYes e L h = .ok (.ref h.length) h' ∧ Bd ds h' ∧ Ex h h' ∧ h'[h.length]? = some (.lst (ys.map W.d)) ∧ All2 P xs ys := by
  have hD : h.length ≠ 1 := by have := b.len; omega
  have go : ∀ (post : List α) (acc : List W) (h1 : Hh), (∀ x ∈ post, x ∈ xs) → acc.length + post.length ≤ 1000 → Bd ds h1 → Ex h h1 → h1[h.length]? = some (.lst acc) →
      ∃ ys h', compL s.ok vs g (fun L h => noEx (tYes L h)) (fun L h => noEx (e L h)) h.length L (post.map enc) h1 = .ok (.ref h.length) h' ∧ Bd ds h' ∧ Ex h h' ∧ h'[h.length]? = some (.lst (acc ++ ys.map W.d)) ∧ All2 P post ys := by
    intro post
    induction post with
    | nil => intro acc h1 _ _ b1 x1 ha; exact ⟨[], h1, by simp [compL, hok h1 x1], b1, x1, by simpa using ha, .nil⟩
    | cons x post ih =>
      intro acc h1 hm hl1 b1 x1 ha
      rw [List.length_cons] at hl1
      obtain ⟨L1, hp, he⟩ := hx x (hm x List.mem_cons_self)
      obtain ⟨y, h2, e2, b2, x2, py⟩ := he h1 b1 x1
      have ha2 := x2.2 _ _ hD ha
      have hlt := (List.getElem?_eq_some_iff.mp ha2).1
      obtain ⟨ys, h3, e3, b3, x3, a3, p3⟩ := ih (acc ++ [.d y]) (h2.set h.length (.lst (acc ++ [.d y]))) (fun z hz => hm z (List.mem_cons_of_mem _ hz)) (by simp; omega) (b2.set b.len) ((x1.trans x2).set (Nat.le_refl _)) (by rw [List.getElem?_set_self hlt])
      refine ⟨y :: ys, h3, ?_, b3, x3, by rw [a3]; simp, .cons py p3⟩
      rw [List.map_cons, compL, if_pos (hok h1 x1), hp]
      simp only [tYes_eq, noEx_ok, R.bind_ok, if_true, e2, ha2]
      rw [if_pos (by simp only [sizeMax]; omega)]
      simpa using e3
  obtain ⟨ys, h', e', r⟩ := go xs [] (h ++ [.lst []]) (fun _ z => z) (by simpa using hl) b.app .app (by simp)
  refine ⟨ys, h', ?_, by simpa using r⟩
  rw [eComp_eq, hi, R.bind_ok, hs]
  exact e'
/-! ### parameters -/
/-- names taken from two stacks -/
def runK : List Str → List Str → List Str → Option (List (Str × Str))
  | [], _, _ => some []
  | k :: ks, xs, ys => if k = Str.ofString "int" then (match xs with
      | x :: xs => (runK ks xs ys).map ((x, k) :: ·)
      | [] => none) else if k = Str.ofString "array" then (match ys with
      | y :: ys => (runK ks xs ys).map ((y, k) :: ·)
      | [] => none) else none
theorem look2 {a c : Nat} {k : Str} : look ([(Sum.inr (Str.ofString "int"), W.ref a), (Sum.inr (Str.ofString "array"), W.ref c)] : List (Key × W)) (.inr k) = if k = Str.ofString "int" then some (.ref a) else if k = Str.ofString "array" then some (.ref c) else none := by
  unfold look
  by_cases h1 : k = Str.ofString "int"
  · subst h1; simp
  · have h1' : ¬ Str.ofString "int" = k := fun z => h1 z.symm
    by_cases h2 : k = Str.ofString "array"
    · subst h2; simp [h1, h1']
    · have h2' : ¬ Str.ofString "array" = k := fun z => h2 z.symm
      simp [h1, h1', h2, h2']
theorem pop0 {a : Nat} {x : Str} {xs : List Str} (ha : h[a]? = some (.lst ((x :: xs).map W.str))) : mPopAt [.ref a, .d (.int 0)] h = some (W.str x, h.set a (.lst (xs.map W.str))) := by
  simp only [mPopAt, ha]
  rw [if_pos (by omega)]
  simp [ixN]
abbrev lD (x1 x2 x3 x4 : Option W) (nd : Nat) (pps : List (Str × Str)) (x7 : Option W) : Loc := [some (.ref 1), x1, x2, x3, x4, some (.ref nd), some (.d (enPs pps)), x7, none, none]
theorem l1_ok2 {ok : Hh → Prop} {h0 : Hh} {x1 x2 x3 x4 : Option W} {nd a c : Nat} (hok : ∀ h', Ex h0 h' → ok h') (hnd : nd ≠ 1) (hac : a ≠ c) (hna : nd ≠ a) (hnc : nd ≠ c) (ha0 : h0.length ≤ a) (hc0 : h0.length ≤ c) (hb0 : 2 ≤ h0.length) : ∀ (K xs ys : List Str) (pps out : List (Str × Str)) (x7 : Option W) (h : Hh), Bd ds h → Ex h0 h → h[nd]? = some (.dk [(.inr (Str.ofString "int"), .ref a), (.inr (Str.ofString "array"), .ref c)]) →
    h[a]? = some (.lst (xs.map W.str)) → h[c]? = some (.lst (ys.map W.str)) → runK K xs ys = some out → pps.length + K.length ≤ 100 →
    ∃ x7' h', forL ok (.nm 7) l1__law_drawn (K.map W.str) (lD x1 x2 x3 x4 nd pps x7) h = .nx (lD x1 x2 x3 x4 nd (pps ++ out) x7') h' ∧ Bd ds h' ∧ Ex h0 h'
  | [], xs, ys, pps, out, x7, h, b, x, hn, ha, hc, hr, hl => by
    simp only [runK, Option.some.injEq] at hr
    subst hr
    exact ⟨x7, h, by rw [List.map_nil, forL_nil (hok h x), List.append_nil], b, x⟩
  | k :: K, xs, ys, pps, out, x7, h, b, x, hn, ha, hc, hr, hl => by
    rw [List.length_cons] at hl
    have hadd : ∀ (n : Str) (M : Hh), opAdd (.d (enPs pps)) (.d (.tuple [.tuple [.str n, .str k]])) M = some (.d (enPs (pps ++ [(n, k)])), M) := fun n M => by
      have : mkTup ((pps.map enP).map W.d ++ [W.d (.tuple [.str n, .str k])]) = .d (enPs (pps ++ [(n, k)])) := by
        rw [← mkTup_map ((pps ++ [(n, k)]).map enP)]; simp
      simp only [opAdd, W.items_d, List.length_map, List.map_cons, List.map_nil, List.length_cons, List.length_nil, sizeMax]
      rw [if_pos (by omega), ← this]
    have hdis : ¬ Str.ofString "array" = Str.ofString "int" := by decide +kernel
    rw [List.map_cons, forL_cons (hok h x) (show Tg.put (.nm 7) (W.str k) (lD x1 x2 x3 x4 nd pps x7) = some (lD x1 x2 x3 x4 nd pps (some (W.str k))) from rfl)]
    unfold runK at hr
    by_cases h1 : k = Str.ofString "int"
    · rw [if_pos h1] at hr
      cases xs with
      | nil => cases hr
      | cons z xs =>
        obtain ⟨out', hr', rfl⟩ := Option.map_eq_some_iff.mp hr
        have hix : opIx (.ref nd) (.d (.str k)) h = some (.ref a, h) := by simp only [opIx, hn, dget, keyW, Option.map_some, look2, h1, if_true]
        have hpop := pop0 ha
        have hisl : isLst h (.ref a) = true := by simp [isLst, ha]
        have hlt := (List.getElem?_eq_some_iff.mp ha).1
        have eb : l1__law_drawn (lD x1 x2 x3 x4 nd pps (some (W.str k))) h = .nx (lD x1 x2 x3 x4 nd (pps ++ [(z, k)]) (some (W.str k))) (h.set a (.lst (xs.map W.str))) := by
          have hadd := hadd z (h.set a (.lst (xs.map W.str)))
          simp [l1__law_drawn, lD, hix, hisl, hpop, sizeMax, mkTup_d2, mkTup_d1, hadd]
        rw [eb]
        obtain ⟨x7', h', e', r⟩ := l1_ok2 hok hnd hac hna hnc ha0 hc0 hb0 K xs ys (pps ++ [(z, k)]) out' (some (W.str k)) (h.set a (.lst (xs.map W.str))) (b.set (by omega)) (x.set ha0) (by rw [List.getElem?_set_ne (Ne.symm hna)]; exact hn) (by rw [List.getElem?_set_self hlt]) (by rw [List.getElem?_set_ne hac]; exact hc) hr' (by simp; omega)
        exact ⟨x7', h', by dsimp only; rw [e']; simp, r⟩
    · rw [if_neg h1] at hr
      by_cases h2 : k = Str.ofString "array"
      · rw [if_pos h2] at hr
        cases ys with
        | nil => cases hr
        | cons z ys =>
          obtain ⟨out', hr', rfl⟩ := Option.map_eq_some_iff.mp hr
          have hix : opIx (.ref nd) (.d (.str k)) h = some (.ref c, h) := by simp only [opIx, hn, dget, keyW, Option.map_some, look2, h2, if_neg hdis, if_true]
          have hpop := pop0 hc
          have hisl : isLst h (.ref c) = true := by simp [isLst, hc]
          have hlt := (List.getElem?_eq_some_iff.mp hc).1
          have eb : l1__law_drawn (lD x1 x2 x3 x4 nd pps (some (W.str k))) h = .nx (lD x1 x2 x3 x4 nd (pps ++ [(z, k)]) (some (W.str k))) (h.set c (.lst (ys.map W.str))) := by
            have hadd := hadd z (h.set c (.lst (ys.map W.str)))
            simp [l1__law_drawn, lD, hix, hisl, hpop, sizeMax, mkTup_d2, mkTup_d1, hadd]
          rw [eb]
          obtain ⟨x7', h', e', r⟩ := l1_ok2 hok hnd hac hna hnc ha0 hc0 hb0 K xs ys (pps ++ [(z, k)]) out' (some (W.str k)) (h.set c (.lst (ys.map W.str))) (b.set (by omega)) (x.set hc0) (by rw [List.getElem?_set_ne (Ne.symm hnc)]; exact hn) (by rw [List.getElem?_set_ne (Ne.symm hac)]; exact ha) (by rw [List.getElem?_set_self hlt]) hr' (by simp; omega)
          exact ⟨x7', h', by dsimp only; rw [e']; simp, r⟩
      · rw [if_neg h2] at hr; cases hr
end
end Sp
end

section
/-! SpP8: drawn programs. -/
namespace Sp
open Mi Sem
open PySem (PyData Str)
/-- what the parameters of a function may be -/
structure ParamsOk (ps : List (Str × Str)) : Prop where
  kinds : KindsOk ps
  len : ps.length ≤ 5
  ok : ∀ kv ∈ ps, PyData.strOk kv.1 = true
  nd : (ps.map (·.1)).Nodup
  now : (Str.ofString "w", Str.ofString "array") ∉ ps
/-- the lists of kinds, the parameters that they give -/
def KL : List (List Str) := [["int"], ["int", "int"], ["array", "int"], ["array"], [], ["array", "int", "int"], ["array", "array", "int"]]
def PL : List (List (Str × Str)) := [[("x", "int")], [("x", "int"), ("y", "int")], [("a", "array"), ("x", "int")], [("a", "array")], [], [("a", "array"), ("x", "int"), ("y", "int")], [("a", "array"), ("b", "array"), ("x", "int")]]
def paramsB (ps : List (Str × Str)) : Bool := (ps.all fun q => decide (q.2 = Str.ofString "int") || decide (q.2 = Str.ofString "array")) && (decide (ps.length ≤ 5) && ((ps.all fun q => PyData.strOk q.1) && (decide (ps.map (·.1)).Nodup && !decide ((Str.ofString "w", Str.ofString "array") ∈ ps))))
theorem paramsB_ok {ps : List (Str × Str)} (h : paramsB ps = true) : ParamsOk ps := by
  simp only [paramsB, Bool.and_eq_true, List.all_eq_true, Bool.or_eq_true, decide_eq_true_eq, Bool.not_eq_true', decide_eq_false_iff_not] at h
  exact ⟨h.1, h.2.1, h.2.2.1, h.2.2.2.1, h.2.2.2.2⟩
theorem PL_ok : ∀ ps ∈ PL, ParamsOk ps := by
  have : PL.all paramsB = true := by decide +kernel
  exact fun ps h => paramsB_ok (List.all_eq_true.mp this ps h)
theorem run_KL : ∀ (i : Nat) (K : List Str), KL[i]? = some K → ∃ out, runK K ["x", "y"] ["a", "b"] = some out ∧ out ∈ PL ∧ K.length ≤ 3 := by
  have : (KL.all fun K => (match runK K ["x", "y"] ["a", "b"] with | some out => decide (out ∈ PL) | none => false) && decide (K.length ≤ 3)) = true := by decide +kernel
  intro i K hK
  have := List.all_eq_true.mp this K (List.mem_of_getElem? hK)
  simp only [Bool.and_eq_true, decide_eq_true_eq] at this
  obtain ⟨h1, h2⟩ := this
  cases hr : runK K ["x", "y"] ["a", "b"] with
  | none => rw [hr] at h1; cases h1
  | some out => rw [hr] at h1; exact ⟨out, rfl, of_decide_eq_true h1, h2⟩
theorem merge_nodup2 : ∀ (kvs acc : List (Key × W)), ((acc ++ kvs).map (·.1)).Nodup → merge acc kvs = acc ++ kvs
  | [], acc, _ => by simp [merge]
  | kv :: kvs, acc, h => by
    have h1 : acc.any (fun x => decide (x.1 = kv.1)) = false := by
      rw [Bool.eq_false_iff]
      intro c
      obtain ⟨x, hx, e⟩ := List.any_eq_true.mp c
      have e := of_decide_eq_true e
      rw [List.map_append, List.nodup_append] at h
      exact h.2.2 _ (List.mem_map.mpr ⟨x, hx, rfl⟩) _ (List.mem_map.mpr ⟨kv, List.mem_cons_self, rfl⟩) e
    have hp : put acc kv.1 kv.2 = acc ++ [kv] := by
      unfold put
      rw [if_neg (by rw [h1]; exact Bool.false_ne_true)]
    show merge (put acc kv.1 kv.2) kvs = _
    rw [hp, merge_nodup2 kvs (acc ++ [kv]) (by simpa using h)]
    simp
theorem dict_params {ps : List (Str × Str)} {h : Hh} (hp : ParamsOk ps) : bDict2 [.d (enPs ps)] h = some (.ref h.length, h ++ [.dk (ps.map enK)]) := by
  have hm : ((ps.map enP).map W.d).mapM pairW = some (ps.map enK) := by
    clear hp
    induction ps with
    | nil => rfl
    | cons q ps ih =>
      simp only [List.map_cons, List.mapM_cons, ih]
      rfl
  have hmer : merge [] (ps.map enK) = ps.map enK := by
    rw [merge_nodup2 _ [] (by
      rw [List.nil_append, List.map_map]
      have : (fun x : Key × W => x.1) ∘ enK = fun kv : Str × Str => (Sum.inr kv.1 : Key) := rfl
      rw [this]
      have h2 := hp.nd
      rw [show (fun kv : Str × Str => (Sum.inr kv.1 : Key)) = (fun s : Str => (Sum.inr s : Key)) ∘ (fun kv => kv.1) from rfl, ← List.map_map]
      unfold List.Nodup
      rw [List.pairwise_map]
      exact List.Pairwise.imp (fun hne e => hne (by injection e)) h2)]
    simp
  simp only [bDict2, W.items_d, hm, List.length_map, Option.map_some, hmer]
  rw [if_pos (by simp only [sizeMax]; have := hp.len; omega)]
section
variable {ds : List Int} {h h' : Hh} {w : W} {p q : Nat} {kn : List (Str × Str)} {hs : List Head}
/-- the lists of kinds, laid -/
abbrev kl (h : Hh) : Hh := h ++ ((KL.map fun K => O.lst (K.map W.str)) ++ [.lst ((List.range 7).map fun i => W.ref (h.length + i))])
theorem kl_ok {L : Loc} : eLst (aCons (eLst (aCons (eCon (.str "int")) aNil)) (aCons (eLst (aCons (eCon (.str "int")) (aCons (eCon (.str "int")) aNil))) (aCons (eLst (aCons (eCon (.str "array")) (aCons (eCon (.str "int")) aNil))) (aCons (eLst (aCons (eCon (.str "array")) aNil)) (aCons (eLst aNil) (aCons (eLst (aCons (eCon (.str "array")) (aCons (eCon (.str "int")) (aCons (eCon (.str "int")) aNil)))) (aCons (eLst (aCons (eCon (.str "array")) (aCons (eCon (.str "array")) (aCons (eCon (.str "int")) aNil)))) aNil))))))) L h = .ok (.ref (h.length + 7)) (kl h) := by
  simp [sizeMax, kl, KL, List.range, List.range.loop]
theorem kl_at (i : Nat) (K : List Str) (hK : KL[i]? = some K) : (kl h)[h.length + i]? = some (.lst (K.map W.str)) := by
  have hi := (List.getElem?_eq_some_iff.mp hK).1
  unfold kl
  rw [List.getElem?_append_right (by omega), show h.length + i - h.length = i by omega, List.getElem?_append_left (by simpa using hi), List.getElem?_map, hK]
  rfl
theorem kl_top : (kl h)[h.length + 7]? = some (.lst ((List.range 7).map fun i => W.ref (h.length + i))) := by
  unfold kl
  rw [List.getElem?_append_right (by omega), show h.length + 7 - h.length = 7 by omega]
  rfl
theorem disp_ok {L : Loc} : eDisp [((eCon (.str "int")), (eLst (aCons (eCon (.str "x")) (aCons (eCon (.str "y")) aNil)))), ((eCon (.str "array")), (eLst (aCons (eCon (.str "a")) (aCons (eCon (.str "b")) aNil))))] L h =
    .ok (.ref h.length) (h ++ [.dk [(.inr (Str.ofString "int"), .ref (h.length + 1)), (.inr (Str.ofString "array"), .ref (h.length + 2))], .lst (([Str.ofString "x", Str.ofString "y"] : List Str).map W.str), .lst (([Str.ofString "a", Str.ofString "b"] : List Str).map W.str)]) := by
  have hne : ¬ Str.ofString "int" = Str.ofString "array" := by decide +kernel
  simp [eDisp, evPairs, sizeMax, keyW, merge, put, hne]
abbrev lE (hd : Nat) (x1 x3 x4 x5 x6 x7 : Option W) : Loc := [some (.ref 1), x1, some (.ref hd), x3, x4, x5, x6, x7, none, none]
/-- one function's head -/
theorem l0_ok2 {hd : Nat} {x1 x4 x5 x6 x7 : Option W} {nm : Str} (b : Bd ds h) (hat : h[hd]? = some (.lst (hs.map fun x => W.d (enH x)))) (hd2 : 2 ≤ hd) (hl : hs.length < 100) :
    ∃ ps y4 y5 y6 y7 h', l0__law_drawn (lE hd x1 (some (.str nm)) x4 x5 x6 x7) h = .nx (lE hd x1 (some (.str nm)) y4 y5 y6 y7) h' ∧ Bd ds h' ∧ (∀ (i : Nat) (o : O), i ≠ 1 → i ≠ hd → h[i]? = some o → h'[i]? = some o) ∧ h.length ≤ h'.length ∧ h'[hd]? = some (.lst ((hs ++ [(nm, ps)]).map fun x => W.d (enH x))) ∧ ps ∈ PL := by
  have hd1 : hd ≠ 1 := by omega
  obtain ⟨i, h2, e2, b2, x2, i0, i1⟩ := draw (many := 7) (show Bd ds (kl h) from b.app) (by omega)
  obtain ⟨i, rfl⟩ : ∃ j : Nat, i = j := ⟨i.toNat, by omega⟩
  have hi : i < 7 := by omega
  obtain ⟨K, hK⟩ : ∃ K, KL[i]? = some K := ⟨KL[i]'(by simpa [KL] using hi), by simp⟩
  obtain ⟨out, hrun, hout, hKl⟩ := run_KL i K hK
  have hb := b.len
  have xh2 : Ex h h2 := Ex.app.trans x2
  have hK2 := x2.2 _ _ (by omega) (kl_at (h := h) i K hK)
  have hix : opIx (.ref (h.length + 7)) (.d (.int (i : Int))) h2 = some (.ref (h.length + i), h2) := opIx_lst (x2.2 _ _ (by omega) kl_top) (by simp [hi])
  have eg : eGc (eOp2 opIx (eLst (aCons (eLst (aCons (eCon (.str "int")) aNil)) (aCons (eLst (aCons (eCon (.str "int")) (aCons (eCon (.str "int")) aNil))) (aCons (eLst (aCons (eCon (.str "array")) (aCons (eCon (.str "int")) aNil))) (aCons (eLst (aCons (eCon (.str "array")) aNil)) (aCons (eLst aNil) (aCons (eLst (aCons (eCon (.str "array")) (aCons (eCon (.str "int")) (aCons (eCon (.str "int")) aNil)))) (aCons (eLst (aCons (eCon (.str "array")) (aCons (eCon (.str "array")) (aCons (eCon (.str "int")) aNil)))) aNil)))))))) (eCall m__law_draw (aCons (eVar 0) (aCons (eCon (.int 7)) aNil)))) (lE hd x1 (some (.str nm)) x4 x5 x6 x7) h = .ok (.ref (h.length + i)) h2 := by
    have e0 : (eOp2 opIx (eLst (aCons (eLst (aCons (eCon (.str "int")) aNil)) (aCons (eLst (aCons (eCon (.str "int")) (aCons (eCon (.str "int")) aNil))) (aCons (eLst (aCons (eCon (.str "array")) (aCons (eCon (.str "int")) aNil))) (aCons (eLst (aCons (eCon (.str "array")) aNil)) (aCons (eLst aNil) (aCons (eLst (aCons (eCon (.str "array")) (aCons (eCon (.str "int")) (aCons (eCon (.str "int")) aNil)))) (aCons (eLst (aCons (eCon (.str "array")) (aCons (eCon (.str "array")) (aCons (eCon (.str "int")) aNil)))) aNil)))))))) (eCall m__law_draw (aCons (eVar 0) (aCons (eCon (.int 7)) aNil)))) (lE hd x1 (some (.str nm)) x4 x5 x6 x7) h = .ok (.ref (h.length + i)) h2 := by
      rw [eOp2_eq, kl_ok]
      simp only [R.bind_ok, eCall_eq, aCons_eq, aNil_eq, eVar_eq, lE, List.getElem?_cons_zero, eCon_eq, e2, hix, R.of_some]
    obtain ⟨h3, e3, _, _, r⟩ := eGc_bd b e0 b2 xh2
    rcases r with rfl | ⟨_, z⟩
    · exact e3
    · have z2 : h.length + i < h.length := by simpa using z
      omega
  have ed := fun L => disp_ok (h := h2) (L := L)
  have hb2 := b2.len
  have hl2 := xh2.1
  obtain ⟨y7, h5, e5, b5, x5'⟩ := l1_ok2 (ds := ds) (ok := fun h' => h'[h.length + i]? = some (.lst (K.map W.str))) (h0 := h2) (x1 := x1) (x2 := some (.ref hd)) (x3 := some (.str nm)) (x4 := some (.ref (h.length + i))) (nd := h2.length) (a := h2.length + 1) (c := h2.length + 2)
    (fun h' x => x.2 _ _ (by omega) hK2) (by omega) (by omega) (by omega) (by omega) (by omega) (by omega) hb2 K ["x", "y"] ["a", "b"] [] out x7
    (h2 ++ [.dk [(.inr (Str.ofString "int"), .ref (h2.length + 1)), (.inr (Str.ofString "array"), .ref (h2.length + 2))], .lst (([Str.ofString "x", Str.ofString "y"] : List Str).map W.str), .lst (([Str.ofString "a", Str.ofString "b"] : List Str).map W.str)]) b2.app .app (by simp) (by simp) (by simp) hrun (by simp; omega)
  have hat5 := x5'.2 _ _ hd1 (xh2.2 _ _ hd1 hat)
  have hisl : isLst h5 (.ref hd) = true := by simp [isLst, hat5]
  have hap := app_lst2 (h := h5) (p := hd) (ws := hs.map fun x => W.d (enH x)) (x := W.d (enH (nm, out))) hat5 (by simp; omega)
  have hap' : mAppend [.ref hd, .d (.tuple [.str nm, enPs out])] h5 = some (.non, h5.set hd (.lst ((hs ++ [(nm, out)]).map fun x => W.d (enH x)))) := by
    rw [List.map_append]; exact hap
  have hlt5 := (List.getElem?_eq_some_iff.mp hat5).1
  rw [List.nil_append] at e5
  refine ⟨out, some (.ref (h.length + i)), some (.ref h2.length), some (.d (enPs out)), y7, h5.set hd (.lst ((hs ++ [(nm, out)]).map fun x => W.d (enH x))), ?_, b5.set hd2, fun j o n1 n2 e => ?_, by simp; have := x5'.1; omega, by rw [List.getElem?_set_self hlt5], hout⟩
  · have e6 : eTup aNil (lE hd x1 (some (.str nm)) (some (.ref (h.length + i))) (some (.ref h2.length)) x6 x7) (h2 ++ [.dk [(.inr (Str.ofString "int"), .ref (h2.length + 1)), (.inr (Str.ofString "array"), .ref (h2.length + 2))], .lst (([Str.ofString "x", Str.ofString "y"] : List Str).map W.str), .lst (([Str.ofString "a", Str.ofString "b"] : List Str).map W.str)]) = .ok (.d (enPs [])) (h2 ++ [.dk [(.inr (Str.ofString "int"), .ref (h2.length + 1)), (.inr (Str.ofString "array"), .ref (h2.length + 2))], .lst (([Str.ofString "x", Str.ofString "y"] : List Str).map W.str), .lst (([Str.ofString "a", Str.ofString "b"] : List Str).map W.str)]) := by
      simp [mkTup_d0]
    have hi4 : ∀ T : Hh, iSeq (eVar 4) (lD x1 (some (.ref hd)) (some (.str nm)) (some (.ref (h.length + i))) h2.length [] x7) (h2 ++ T) = .ok (.ls (h.length + i) (K.map W.str)) (h2 ++ T) := fun T => by
      have : (h2 ++ T)[h.length + i]? = some (.lst (K.map W.str)) := Ex.app.2 _ _ (by omega) hK2
      simp [lD, this]
    simp only [l0__law_drawn, sCons_eq, sAsg_eq, eg, R.then_ok, put_nm, List.set_cons_succ, List.set_cons_zero, Out.seq_nx, lE] at e6 ⊢
    simp only [ed, R.then_ok, put_nm, List.set_cons_succ, List.set_cons_zero, Out.seq_nx, sCons_eq, sAsg_eq, e6, sFor_eq]
    rw [show ∀ T : Hh, iSeq (eVar 4) [some (.ref 1), x1, some (.ref hd), some (.str nm), some (.ref (h.length + i)), some (.ref h2.length), some (.d (enPs [])), x7, none, none] (h2 ++ T) = .ok (.ls (h.length + i) (K.map W.str)) (h2 ++ T) from hi4]
    simp only [R.then_ok, items_ls]
    have e5' := e5
    simp only [lD] at e5'
    rw [show (Src.ls (h.length + i) (K.map W.str)).ok = fun h' : Hh => h'[h.length + i]? = some (.lst (K.map W.str)) from rfl, e5']
    simp [hisl, sizeMax, mkTup_d2, hap']
  · rw [List.getElem?_set_ne (Ne.symm n2)]
    exact x5'.2 _ _ n1 (xh2.2 _ _ n1 e)
end
end Sp
end

section
/-! SpP9: a drawn program, whole. -/
namespace Sp
open Mi Sem
open PySem (PyData Str)
abbrev Open := Str × List (Int × Int × Int)
abbrev enO (o : Open) : PyData := .tuple [.str o.1, .tuple (o.2.map enQ)]
def nameB (s : Str) : Bool := decide (1 ≤ s.length) && (decide (s.length ≤ 8) && lettersB s)
structure ProgK (B : List Head → Head → PyData → Prop) (hs : List Head) (opn : List Open) (P : PyData) : Prop where
  shape : ∃ fs, P = .tuple [.str "program", .tuple fs, .tuple (opn.map enO)] ∧ All2 (fun x f => ∃ y, f = .tuple [.str "fun", .str x.1, enPs x.2, y] ∧ B hs x y) hs fs
  heads : ∀ x ∈ hs, ParamsOk x.2 ∧ nameB x.1 = true
  nd : (hs.map (·.1)).Nodup
  ne : opn ≠ []
  each : ∀ o ∈ opn, ∃ ps, (o.1, ps) ∈ hs ∧ PromsOk ((ps.length : Int) + 1) o.2 ∧ o.2.length ≤ 2
  small : hs.length ≤ 8 ∧ opn.length ≤ 8
section
variable {ds : List Int} {h h' : Hh} {w : W} {p q : Nat} {kn : List (Str × Str)} {hs : List Head}
theorem heads_ok (hl : ∀ x ∈ hs, x.2 ∈ PL) (hat : h[q]? = some (.lst (hs.map fun x => W.d (enH x)))) (hq : q ≠ 1) (hn : hs ≠ []) : Hds h q hs :=
  ⟨hat, hq, hn, fun x hx => ⟨(PL_ok _ (hl x hx)).kinds, by have := (PL_ok _ (hl x hx)).len; omega⟩⟩
/-- the first loop: the heads -/
theorem l0_all {hd a0 : Nat} {d : Int} {nmL : List Str} {h0 : Hh} (b : Bd ds h) (x0 : Ex h0 h) (hd0 : h0.length = hd) (hb0 : 2 ≤ h0.length) (hat : h[hd]? = some (.lst [])) (ha0 : h[a0]? = some (.lst (nmL.map W.str))) (hne : a0 ≠ hd) (ha1 : a0 ≠ 1) (hl : nmL.length ≤ 50) :
    ∃ (hs : List Head) (y3 y4 y5 y6 y7 : Option W) (h' : Hh), forL (Src.ls a0 (nmL.map W.str)).ok (.nm 3) l0__law_drawn (nmL.map W.str) (lE hd (some (.int d)) none none none none none) h = .nx (lE hd (some (.int d)) y3 y4 y5 y6 y7) h' ∧ Bd ds h' ∧ Ex h0 h' ∧
      h'[hd]? = some (.lst (hs.map fun x => W.d (enH x))) ∧ hs.map (·.1) = nmL ∧ ∀ x ∈ hs, x.2 ∈ PL := by
  obtain ⟨L2, h2, e2, hs, y3, y4, y5, y6, y7, rfl, b2, x2, hat2, hm, hpl, _⟩ := forL_all (ok := (Src.ls a0 (nmL.map W.str)).ok) (g := .nm 3) (body := l0__law_drawn) (enc := W.str) (xs := nmL)
    (fun pre L h' => ∃ (hs : List Head) (y3 y4 y5 y6 y7 : Option W), L = lE hd (some (.int d)) y3 y4 y5 y6 y7 ∧ Bd ds h' ∧ Ex h0 h' ∧ h'[hd]? = some (.lst (hs.map fun x => W.d (enH x))) ∧ hs.map (·.1) = pre ∧ (∀ x ∈ hs, x.2 ∈ PL) ∧ h'[a0]? = some (.lst (nmL.map W.str)))
    (fun pre L h' ⟨_, _, _, _, _, _, _, _, _, _, _, _, k⟩ => k)
    (fun pre nm post L h' e ⟨hs, y3, y4, y5, y6, y7, eL, b1, x1, hat1, hm, hpl, hk⟩ => by
      subst eL
      have hlen : hs.length = pre.length := by rw [← hm]; simp
      have hpre : pre.length ≤ 50 := by have := congrArg List.length e; simp at this; omega
      obtain ⟨ps, z4, z5, z6, z7, h3, e3, b3, keep, len3, hat3, hps⟩ := l0_ok2 (hd := hd) (x1 := some (.int d)) (x4 := y4) (x5 := y5) (x6 := y6) (x7 := y7) (nm := nm) b1 hat1 (by omega) (by omega)
      exact ⟨lE hd (some (.int d)) (some (.str nm)) y4 y5 y6 y7, rfl, _, h3, .inl e3, hs ++ [(nm, ps)], _, _, _, _, _, rfl, b3, ⟨by have := x1.1; omega, fun i o n u => keep i o n (by have := (List.getElem?_eq_some_iff.mp u).1; omega) (x1.2 i o n u)⟩, hat3, by simp [hm], fun x hx => by
        rcases List.mem_append.mp hx with hx | hx
        · exact hpl x hx
        · simp at hx; subst hx; exact hps, keep _ _ ha1 hne hk⟩)
    (L := lE hd (some (.int d)) none none none none none) (h := h) ⟨[], _, _, _, _, _, rfl, b, x0, hat, rfl, (by intro x hx; simp at hx), ha0⟩
  exact ⟨hs, y3, y4, y5, y6, y7, h2, e2, b2, x2, hat2, hm, hpl⟩
/-- the functions -/
theorem funs_ok {hd d : Nat} {L : Loc} (b : Bd ds h) (g : Hds h hd hs) (hl : ∀ x ∈ hs, x.2 ∈ PL) (hlen : hs.length ≤ 100) (hd6 : d < 6) (hL : L = lE hd (some (.int (d : Int))) (L.getD 3 none) (L.getD 4 none) (L.getD 5 none) (L.getD 6 none) (L.getD 7 none)) :
    ∃ fs h', eGc (eOpN bTuple (aCons (eComp (iSeq (eVar 2)) [3, 6] (.tp [3, 6]) tYes (eTup (aCons (eCon (.str "fun")) (aCons (eVar 3) (aCons (eVar 6) (aCons (eCall (m__law_body 6) (aCons (eVar 0) (aCons (eVar 2) (aCons (eOpN bDict2 (aCons (eVar 6) aNil)) (aCons (eVar 1) aNil))))) aNil)))))) aNil)) L h = .ok (.d (.tuple fs)) h' ∧ Bd ds h' ∧ Ex h h' ∧
      All2 (fun x f => ∃ y, f = .tuple [.str "fun", .str x.1, enPs x.2, y] ∧ BodyK hs x.2 d y) hs fs := by
  generalize L.getD 3 none = y3 at hL
  generalize L.getD 4 none = y4 at hL
  generalize L.getD 5 none = y5 at hL
  generalize L.getD 6 none = y6 at hL
  generalize L.getD 7 none = y7 at hL
  subst hL
  obtain ⟨fs, h2, e2, b2, x2, hat2, all⟩ := eComp_bd (ds := ds) (h := h) (i := iSeq (eVar 2)) (vs := [3, 6]) (g := .tp [3, 6]) (e := eTup (aCons (eCon (.str "fun")) (aCons (eVar 3) (aCons (eVar 6) (aCons (eCall (m__law_body 6) (aCons (eVar 0) (aCons (eVar 2) (aCons (eOpN bDict2 (aCons (eVar 6) aNil)) (aCons (eVar 1) aNil))))) aNil)))))
    (L := lE hd (some (.int (d : Int))) y3 y4 y5 y6 y7) (enc := fun x => W.d (enH x)) (s := .ls hd (hs.map fun x => W.d (enH x))) (P := fun x f => ∃ y, f = .tuple [.str "fun", .str x.1, enPs x.2, y] ∧ BodyK hs x.2 d y) (xs := hs) b
    (by simp [g.at_]) rfl (fun h' x => x.2 _ _ g.ne g.at_) (by omega) (fun x hx => by
      refine ⟨lE hd (some (.int (d : Int))) (some (.str x.1)) y4 y5 (some (.d (enPs x.2))) y7, by simp [wipeL, enH, setAll, lE], fun h' b' x' => ?_⟩
      have hp := PL_ok _ (hl x hx)
      have ed := dict_params (h := h') hp
      obtain ⟨y, h3, e3, b3, x3, hy⟩ := body_ok (ds := ds) (hs := hs) 6 d hd6 (h := h' ++ [.dk (x.2.map enK)]) (p := h'.length) (q := hd) (kn := x.2) b'.app ⟨by simp, by have := b'.len; omega, hp.ok, hp.nd⟩ (by have := hp.len; omega) ((g.mono x').mono .app) hp.now
      exact ⟨_, h3, by simp [ed, e3, sizeMax, mkTup_d4], b3, Ex.app.trans x3, y, rfl, hy⟩)
  have e3 : (eOpN bTuple (aCons (eComp (iSeq (eVar 2)) [3, 6] (.tp [3, 6]) tYes (eTup (aCons (eCon (.str "fun")) (aCons (eVar 3) (aCons (eVar 6) (aCons (eCall (m__law_body 6) (aCons (eVar 0) (aCons (eVar 2) (aCons (eOpN bDict2 (aCons (eVar 6) aNil)) (aCons (eVar 1) aNil))))) aNil)))))) aNil)) (lE hd (some (.int (d : Int))) y3 y4 y5 y6 y7) h = .ok (.d (.tuple fs)) h2 := by
    rw [eOpN_eq, aCons_eq, e2]
    simp only [R.bind_ok, aNil_eq, bTuple, hat2, mkTup_map, R.of_some]
  obtain ⟨h3, e4, b4, x4, _⟩ := eGc_bd b e3 b2 x2
  exact ⟨fs, h3, e4, b4, x4, all⟩
end
end Sp
end

section
/-! SpPa: the opens; a drawn program; a known one. -/
namespace Sp
open Mi Sem
open PySem (PyData Str)
section
variable {ds : List Int} {h h' : Hh} {w : W} {p q : Nat} {kn : List (Str × Str)} {hs : List Head}
abbrev lF (hd od : Nat) (x1 x3 x4 x5 x6 x7 x8 : Option W) : Loc := [some (.ref 1), x1, some (.ref hd), x3, x4, x5, x6, x7, x8, some (.ref od)]
theorem opens_ok {hd od : Nat} {x1 x3 x4 x5 x6 x7 x8 : Option W} {h0 : Hh} (b : Bd ds h) (x0 : Ex h0 h) (g : Hds h0 hd hs) (hod : h0.length ≤ od) (hb0 : 2 ≤ h0.length) (hat : h[od]? = some (.lst [])) (hp5 : ∀ x ∈ hs, x.2.length ≤ 5) (hl : hs.length ≤ 50) :
    ∃ (opn : List Open) (y3 y6 : Option W) (h' : Hh), forL (Src.ls hd (hs.map fun x => W.d (enH x))).ok (.tp [3, 6]) l2__law_drawn (hs.map fun x => W.d (enH x)) (lF hd od x1 x3 x4 x5 x6 x7 x8) h = .nx (lF hd od x1 y3 x4 x5 y6 x7 x8) h' ∧ Bd ds h' ∧ Ex h0 h' ∧
      h'[od]? = some (.lst (opn.map fun o => W.d (enO o))) ∧ opn ≠ [] ∧ opn.length ≤ hs.length ∧ ∀ o ∈ opn, ∃ ps, (o.1, ps) ∈ hs ∧ PromsOk ((ps.length : Int) + 1) o.2 ∧ o.2.length ≤ 2 := by
  have hod1 : od ≠ 1 := by omega
  obtain ⟨L2, h2, e2, opn, y3, y6, rfl, b2, x2, hat2, hne, hle, heach⟩ := forL_all (ok := (Src.ls hd (hs.map fun x => W.d (enH x))).ok) (g := .tp [3, 6]) (body := l2__law_drawn) (enc := fun x => W.d (enH x)) (xs := hs)
    (fun pre L h' => ∃ (opn : List Open) (y3 y6 : Option W), L = lF hd od x1 y3 x4 x5 y6 x7 x8 ∧ Bd ds h' ∧ Ex h0 h' ∧ h'[od]? = some (.lst (opn.map fun o => W.d (enO o))) ∧ (pre ≠ [] → opn ≠ []) ∧ opn.length ≤ pre.length ∧ ∀ o ∈ opn, ∃ ps, (o.1, ps) ∈ hs ∧ PromsOk ((ps.length : Int) + 1) o.2 ∧ o.2.length ≤ 2)
    (fun pre L h' ⟨_, _, _, _, _, k, _⟩ => k.2 _ _ g.ne g.at_)
    (fun pre x post L h' e ⟨opn, y3, y6, eL, b1, x1', hat1, hne, hle, heach⟩ => by
      subst eL
      have hx : x ∈ hs := by rw [e]; simp
      have hpre : pre.length ≤ 50 := by have := congrArg List.length e; simp at this; omega
      refine ⟨lF hd od x1 (some (.str x.1)) x4 x5 (some (.d (enPs x.2))) x7 x8, by simp [enH, setAll, lF], ?_⟩
      have t1 : tGc (tVal (eOp2 opEq (eVar 9) (eLst aNil))) (lF hd od x1 (some (.str x.1)) x4 x5 (some (.d (enPs x.2))) x7 x8) h' = .ok opn.isEmpty h' := by
        refine tGc_ok (h' := h' ++ [.lst []]) ?_ List.take_left
        have hm : (opn.map fun o => W.d (enO o)) = (opn.map enO).map W.d := by simp
        have := eqnil_d (xs := opn.map enO) (neg := false) (a := od) (b := h'.length) (M := h' ++ [.lst []]) (by rw [← hm]; exact Ex.app.2 _ _ hod1 hat1) (by simp)
        simp only [tVal_eq, eOp2_eq, eVar_eq, lF, List.getElem?_cons_succ, List.getElem?_cons_zero, R.bind_ok, eLst_eq, aNil_eq, List.length_nil, Nat.zero_le, if_true]
        rw [show opEq = opEqB false from rfl, this]
        cases opn <;> rfl
      have hm1 : (1 : Int) ≤ (x.2.length : Int) + 1 := by omega
      have add : ∀ h1, Bd ds h1 → Ex h' h1 → ∃ ts h3, Bd ds h3 ∧ Ex h0 h3 ∧ h3[od]? = some (.lst ((opn ++ [(x.1, ts)]).map fun o => W.d (enO o))) ∧ PromsOk ((x.2.length : Int) + 1) ts ∧ ts.length ≤ 2 ∧
          (sCons (sExpr (eMetL mAppend (eVar 9) (aCons (eTup (aCons (eVar 3) (aCons (eCall m__law_promises (aCons (eVar 0) (aCons (eOp2 opAdd (eOpN bLen (aCons (eVar 6) aNil)) (eCon (.int 1))) aNil))) aNil))) aNil))) sNil) (lF hd od x1 (some (.str x.1)) x4 x5 (some (.d (enPs x.2))) x7 x8) h1 = .nx (lF hd od x1 (some (.str x.1)) x4 x5 (some (.d (enPs x.2))) x7 x8) h3 := fun h1 b2 x2 => by
        obtain ⟨ts, h4, e4, b4, x4', hp, hl4⟩ := proms_ok (ds := ds) (h := h1) b2 hm1
        have hat3 := x2.2 _ _ hod1 hat1
        have hat4 := x4'.2 _ _ hod1 hat3
        have hap := app_lst2 (h := h4) (p := od) (ws := opn.map fun o => W.d (enO o)) (x := W.d (enO (x.1, ts))) hat4 (by simp; omega)
        have hisl : isLst h1 (.ref od) = true := by simp [isLst, hat3]
        have hlt4 := (List.getElem?_eq_some_iff.mp hat4).1
        refine ⟨ts, h4.set od (.lst ((opn ++ [(x.1, ts)]).map fun o => W.d (enO o))), b4.set (by omega), (x1'.trans (x2.trans x4')).set hod, by rw [List.getElem?_set_self hlt4], hp, hl4, ?_⟩
        have hlen : bLen [.d (enPs x.2)] h1 = some (.int (x.2.length : Int), h1) := by simp [bLen]
        have hap' : mAppend [.ref od, .d (.tuple [.str x.1, .tuple (ts.map enQ)])] h4 = some (.non, h4.set od (.lst ((opn ++ [(x.1, ts)]).map fun o => W.d (enO o)))) := by
          rw [List.map_append]; exact hap
        simp only [sCons_eq, sExpr_eq, eMetL_eq, eVar_eq, lF, List.getElem?_cons_succ, List.getElem?_cons_zero, R.bind_ok, hisl, if_true, aCons_eq, aNil_eq, eTup_eq, eCall_eq, eOp2_eq, eOpN_eq, hlen, R.of_some, eCon_eq, add_int, e4, List.length_cons, List.length_nil, sizeMax, Nat.reduceAdd, Nat.reduceLeDiff, mkTup_d2, hap', R.then_ok, Out.seq_nx, sNil_eq]
      cases hz : opn.isEmpty with
      | true =>
        rw [hz] at t1
        obtain ⟨ts, h3, b3, x3, hat3, hp, hl3, es⟩ := add h' b1 .refl
        exact ⟨lF hd od x1 (some (.str x.1)) x4 x5 (some (.d (enPs x.2))) x7 x8, h3, .inl (by simp only [l2__law_drawn, sCons_eq (sIf _ _ _) sNil, sIf_eq, tOr_eq, t1, R.bind_ok, if_true, R.then_ok, es, Out.seq_nx, sNil_eq]), opn ++ [(x.1, ts)], _, _, rfl, b3, x3, hat3, fun _ => by simp, by simp; omega, fun o ho => by
          rcases List.mem_append.mp ho with ho | ho
          · exact heach o ho
          · simp at ho; subst ho; exact ⟨x.2, hx, hp, hl3⟩⟩
      | false =>
        rw [hz] at t1
        obtain ⟨i, h1, e1, b3, x3, i0, i1⟩ := draw (many := 3) b1 (by omega)
        have hne2 : opn ≠ [] := fun z => by rw [z] at hz; cases hz
        by_cases c : i = 0
        · subst c
          obtain ⟨ts, h4, b4, x4', hat4, hp, hl4, es⟩ := add h1 b3 x3
          have ht : tVal (eOp2 opEq (eCall m__law_draw (aCons (eVar 0) (aCons (eCon (.int 3)) aNil))) (eCon (.int 0))) (lF hd od x1 (some (.str x.1)) x4 x5 (some (.d (enPs x.2))) x7 x8) h' = .ok true h1 := by simp [e1]
          exact ⟨lF hd od x1 (some (.str x.1)) x4 x5 (some (.d (enPs x.2))) x7 x8, h4, .inl (by simp only [l2__law_drawn, sCons_eq (sIf _ _ _) sNil, sIf_eq, tOr_eq, t1, R.bind_ok, Bool.false_eq_true, if_false, ht, if_true, R.then_ok, es, Out.seq_nx, sNil_eq]), opn ++ [(x.1, ts)], _, _, rfl, b4, x4', hat4, fun _ => by simp, by simp; omega, fun o ho => by
            rcases List.mem_append.mp ho with ho | ho
            · exact heach o ho
            · simp at ho; subst ho; exact ⟨x.2, hx, hp, hl4⟩⟩
        · exact ⟨lF hd od x1 (some (.str x.1)) x4 x5 (some (.d (enPs x.2))) x7 x8, h1, .inl (by simp only [l2__law_drawn, sCons_eq (sIf _ _ _) sNil, sIf_eq, tOr_eq, t1, R.bind_ok, Bool.false_eq_true, if_false, tVal_eq, eOp2_eq, eCall_eq, aCons_eq, aNil_eq, eVar_eq, lF, List.getElem?_cons_zero, eCon_eq, e1, eq_int, R.of_some, asBool_bool, R.then_ok]; simp [c]), opn, _, _, rfl, b3, x1'.trans x3, x3.2 _ _ hod1 hat1, fun _ => hne2, by simp; omega, heach⟩)
    (L := lF hd od x1 x3 x4 x5 x6 x7 x8) (h := h) ⟨[], _, _, rfl, b, x0, hat, fun z => absurd rfl z, by simp, by intro o ho; simp at ho⟩
  exact ⟨opn, y3, y6, h2, e2, b2, x2, hat2, hne g.some_, hle, heach⟩
end
end Sp
end

section
/-! SpPb: a program is drawn, or known. -/
namespace Sp
open Mi Sem
open PySem (PyData Str)
section
variable {ds : List Int} {h h' : Hh} {w : W} {p q : Nat} {kn : List (Str × Str)} {hs : List Head}
theorem drawn_ok {d : Nat} (b : Bd ds h) (hd6 : d < 6) : ∃ (hs : List Head) (opn : List Open) (P : PyData) (h' : Hh), m__law_drawn [.ref 1, .d (.int (d : Int))] h = .ok (.d P) h' ∧ Bd ds h' ∧ Ex h h' ∧ ProgK (fun hs x y => BodyK hs x.2 d y) hs opn P := by
  have hb := b.len
  -- the names
  obtain ⟨j, h1, e1, b1, x1, j0, j1⟩ := draw (many := 2) (b.app (T := [.lst [], .lst [W.str "f", W.str "g"]])) (by omega)
  obtain ⟨nmL, hcut, hnm, hnd, hnne, hnl⟩ : ∃ nmL : List Str, cut [W.str "f", W.str "g"] none (some (1 + j)) = nmL.map W.str ∧ (∀ n ∈ nmL, nameB n = true) ∧ nmL.Nodup ∧ nmL ≠ [] ∧ nmL.length ≤ 2 := by
    have : j = 0 ∨ j = 1 := by omega
    rcases this with rfl | rfl
    · exact ⟨["f"], by simp [cut, sIx], by intro n hn; simp at hn; subst hn; decide +kernel, by decide +kernel, by simp, by simp⟩
    · exact ⟨["f", "g"], by simp [cut, sIx], by intro n hn; simp at hn; rcases hn with rfl | rfl <;> decide +kernel, by decide +kernel, by simp, by simp⟩
  have hat1 : h1[h.length]? = some (.lst []) := x1.2 _ _ (by omega) (by simp)
  have hfg : h1[h.length + 1]? = some (.lst [W.str "f", W.str "g"]) := x1.2 _ _ (by omega) (by simp)
  have eit : eGc (eSl opSl (eLst (aCons (eCon (.str "f")) (aCons (eCon (.str "g")) aNil))) pNone (pSome (eOp2 opAdd (eCon (.int 1)) (eCall m__law_draw (aCons (eVar 0) (aCons (eCon (.int 2)) aNil)))))) (lE h.length (some (.int (d : Int))) none none none none none) (h ++ [.lst []]) = .ok (.ref h1.length) (h1 ++ [.lst (nmL.map W.str)]) := by
    have e0 : (eSl opSl (eLst (aCons (eCon (.str "f")) (aCons (eCon (.str "g")) aNil))) pNone (pSome (eOp2 opAdd (eCon (.int 1)) (eCall m__law_draw (aCons (eVar 0) (aCons (eCon (.int 2)) aNil)))))) (lE h.length (some (.int (d : Int))) none none none none none) (h ++ [.lst []]) = .ok (.ref h1.length) (h1 ++ [.lst (nmL.map W.str)]) := by
      simp [sizeMax, e1, opSl, hfg, hcut]
    obtain ⟨h3, e3, _, _, r⟩ := eGc_bd (ds := ds) (b.app (T := [.lst []])) e0 b1.app ((show Ex (h ++ [.lst []]) (h ++ [.lst [], .lst [W.str "f", W.str "g"]]) from by
      have := Ex.app (h := h ++ [.lst []]) (T := [.lst [W.str "f", W.str "g"]])
      simpa using this).trans (x1.trans .app))
    rcases r with rfl | ⟨_, z⟩
    · exact e3
    · have z2 : h1.length < h.length + 1 := by simpa using z
      have := x1.1
      simp at this; omega
  have l1 := x1.1
  simp at l1
  obtain ⟨hs, y3, y4, y5, y6, y7, h2, e2, b2, x2, hat2, hm, hpl⟩ := l0_all (ds := ds) (h := h1 ++ [.lst (nmL.map W.str)]) (hd := h.length) (a0 := h1.length) (d := (d : Int)) (nmL := nmL) (h0 := h) b1.app (Ex.app.trans (x1.trans .app)) rfl hb (by rw [List.getElem?_append_left (by omega)]; exact hat1) (by simp) (by omega) (by omega) (by omega)
  have hne : hs ≠ [] := fun z => by rw [z] at hm; exact hnne hm.symm
  have hlen : hs.length ≤ 2 := by have := congrArg List.length hm; simp at this; omega
  have g2 := heads_ok hpl hat2 (by omega) hne
  obtain ⟨fs, h3, e3, b3, x3, hfs⟩ := funs_ok (ds := ds) (hs := hs) (L := lE h.length (some (.int (d : Int))) y3 y4 y5 y6 y7) b2 g2 hpl (by omega) hd6 rfl
  have hl3 : h.length < h3.length := by
    have := (List.getElem?_eq_some_iff.mp (x3.2 _ _ (by omega) hat2)).1; omega
  obtain ⟨opn, z3, z6, h4, e4, b4, x4, hat4, hone, hole, heach⟩ := opens_ok (ds := ds) (hs := hs) (h := h3 ++ [.lst []]) (hd := h.length) (od := h3.length) (x1 := some (.int (d : Int))) (x3 := y3) (x4 := y4) (x5 := y5) (x6 := y6) (x7 := y7) (x8 := some (.d (.tuple fs))) (h0 := h3) b3.app .app (g2.mono x3) (Nat.le_refl _) (by omega) (by simp) (fun x hx => (PL_ok _ (hpl x hx)).len) (by omega)
  have done : b__law_drawn [some (.ref 1), some (.d (.int (d : Int))), none, none, none, none, none, none, none, none] h = .rt (.d (.tuple [.str "program", .tuple fs, .tuple (opn.map enO)])) h4 := by
    have ea : eLst aNil [some (.ref 1), some (.d (.int (d : Int))), none, none, none, none, none, none, none, none] h = .ok (.ref h.length) (h ++ [.lst []]) := by simp
    have eb : eLst aNil [some (.ref 1), some (.d (.int (d : Int))), some (.ref h.length), y3, y4, y5, y6, y7, some (.d (.tuple fs)), none] h3 = .ok (.ref h3.length) (h3 ++ [.lst []]) := by simp
    have ec : ∀ (x8 : W) (T : Hh), Ex h3 T → iSeq (eVar 2) [some (.ref 1), some (.d (.int (d : Int))), some (.ref h.length), y3, y4, y5, y6, y7, some (.d (.tuple fs)), some x8] T = .ok (.ls h.length (hs.map fun x => W.d (enH x))) T := fun x8 T x => by
      simp [(g2.mono (x3.trans x)).at_]
    have ht : bTuple [.ref h3.length] h4 = some (.d (.tuple (opn.map enO)), h4) := by
      have : mkTup (opn.map fun o => W.d (enO o)) = .d (.tuple (opn.map enO)) := by rw [← mkTup_map, List.map_map]; rfl
      simp only [bTuple, hat4, this]
    have ed : iSeq (eGc (eSl opSl (eLst (aCons (eCon (.str "f")) (aCons (eCon (.str "g")) aNil))) pNone (pSome (eOp2 opAdd (eCon (.int 1)) (eCall m__law_draw (aCons (eVar 0) (aCons (eCon (.int 2)) aNil))))))) (lE h.length (some (.int (d : Int))) none none none none none) (h ++ [.lst []]) = .ok (.ls h1.length (nmL.map W.str)) (h1 ++ [.lst (nmL.map W.str)]) := by
      rw [iSeq_eq, eit]; simp
    simp only [lE] at ed e2 e3
    simp only [lF] at e4
    simp only [b__law_drawn, sCons_eq, sAsg_eq, ea, R.then_ok, put_nm, List.set_cons_succ, List.set_cons_zero, Out.seq_nx, sFor_eq, ed, items_ls, e2, e3, eb, ec _ _ Ex.app, e4, sRet_eq, eTup_eq, aCons_eq, eCon_eq, R.bind_ok, eVar_eq, List.getElem?_cons_succ, List.getElem?_cons_zero, eOpN_eq, aNil_eq, ht, R.of_some, List.length_cons, List.length_nil, sizeMax, Nat.reduceAdd, Nat.reduceLeDiff, if_true, mkTup_d3, Out.seq_rt]
  have xx : Ex h h4 := x2.trans (x3.trans x4)
  obtain ⟨h5, e5, b5, x5⟩ := fn_d (n := 2) (k := 10) (body := b__law_drawn) (ws := [.ref 1, .d (.int (d : Int))]) rfl b b4 xx done
  exact ⟨hs, opn, _, h5, e5, b5, x5, ⟨fs, rfl, hfs⟩, fun x hx => ⟨PL_ok _ (hpl x hx), hnm _ (by rw [← hm]; exact List.mem_map.mpr ⟨x, hx, rfl⟩)⟩, by rw [hm]; exact hnd, hone, heach, by omega, by omega⟩
end
end Sp
end

section
/-! SpPc: the known programs. -/
namespace Sp
open Mi Sem
open PySem (PyData Str)
abbrev tnm (n : Str) (c : Int) : PyData := .tuple [.str "name", .str n, .int c]
abbrev tln (n : Str) (c : Int) : PyData := .tuple [.str "len", .str n, .int c]
abbrev tnu (c : Int) : PyData := .tuple [.str "num", .int c]
abbrev arr (n : Str) : PyData := .tuple [.str "array", .str n]
abbrev cal (n : Str) (xs : List PyData) : PyData := .tuple [.str "call", .str n, .tuple xs]
abbrev lt (n : Str) (v x : PyData) : PyData := .tuple [.str "let", .str n, v, x]
abbrev gv (t : PyData) : PyData := .tuple [.str "give", t]
abbrev mst (a b : PyData) : PyData := .tuple [.str "most", a, b]
abbrev sam (a b : PyData) : PyData := .tuple [.str "same", a, b]
abbrev iff (c a b : PyData) : PyData := .tuple [.str "if", c, a, b]
abbrev clm (c a : PyData) : PyData := .tuple [.str "claim", c, a]
def kHeads (k : Int) : List Head := if k = 0 then [("f", [("a", "array"), ("x", "int")]), ("g", [("a", "array")])] else if k = 1 then [("f", [("a", "array"), ("x", "int"), ("y", "int")]), ("g", [("a", "array")])] else [("f", [("x", "int")]), ("g", [("x", "int")])]
def kOpens (k : Int) : List Open := if k = 0 then [("g", [])] else if k = 1 then [("g", [])] else [("g", [(0, 1, 0)])]
/-- the bodies of the known programs -/
def kBodies (k c d : Int) : PyData × PyData :=
  if k = 0 then (iff (mst (tln "a" 0) (tnm "x" c)) (gv (tnm "x" 0)) (lt "v" (.tuple [.str "at", .str "a", tnm "x" 0]) (lt "u" (cal "f" [arr "a", tnm "x" 1]) (gv (tnm "u" 0)))),
    lt "u" (cal "f" [arr "a", tnu d]) (clm (mst (tnu 0) (tnm "u" 0)) (gv (tnm "u" 0))))
  else if k = 1 then (iff (mst (tnm "x" 0) (tnm "y" 0)) (lt "m" (.tuple [.str "middle", tnm "x" 0, tnm "y" 0]) (lt "v" (.tuple [.str "at", .str "a", tnm "m" 0]) (iff (mst (tnm "v" 0) (tnu 0)) (lt "u" (cal "f" [arr "a", tnm "m" 1, tnm "y" 0]) (gv (tnm "u" 0)))
      (lt "u" (cal "f" [arr "a", tnm "x" 0, tnm "m" (-1 + d)]) (gv (tnm "u" 0)))))) (gv (tnm "x" 0)),
    lt "u" (cal "f" [arr "a", tnu 0, tln "a" c]) (gv (tnm "u" 0)))
  else (iff (sam (tnm "x" 0) (tnu 0)) (gv (tnu d)) (lt "u" (cal "f" [tnm "x" (-1)]) (gv (tnm "u" c))),
    lt "u" (cal "f" [tnm "x" 0]) (clm (mst (tnu 0) (tnm "u" 0)) (gv (tnm "u" 0))))
def knownP (k c d : Int) : PyData := .tuple [.str "program", .tuple ((kHeads k).zipWith (fun x y => .tuple [.str "fun", .str x.1, enPs x.2, y]) [(kBodies k c d).1, (kBodies k c d).2]), .tuple ((kOpens k).map enO)]
section
variable {ds : List Int} {h h' : Hh} {w : W} {p q : Nat} {kn : List (Str × Str)} {hs : List Head}
theorem known_ok (b : Bd ds h) : ∃ (k c d : Int) (h' : Hh), m__law_known [.ref 1] h = .ok (.d (knownP k c d)) h' ∧ Bd ds h' ∧ Ex h h' ∧ (0 ≤ k ∧ k < 3) ∧ (-1 ≤ c ∧ c ≤ 1) ∧ 0 ≤ d ∧ d < 2 := by
  obtain ⟨k, h1, e1, b1, x1, k0, k1⟩ := draw (many := 3) b (by omega)
  obtain ⟨c, h2, e2, b2, x2, c0, c1⟩ := draw (many := 3) b1 (by omega)
  obtain ⟨d, h3, e3, b3, x3, d0, d1⟩ := draw (many := 2) b2 (by omega)
  have xx : Ex h h3 := x1.trans (x2.trans x3)
  have done : b__law_known [some (.ref 1), none, none, none, none, none, none, none, none, none, none, none, none, none, none] h = .rt (.d (knownP k (c - 1) d)) h3 := by
    have hk : k = 0 ∨ k = 1 ∨ k = 2 := by omega
    rcases hk with rfl | rfl | rfl
    · simp [b__law_known, e1, e2, e3, sizeMax, mkTup_d0, mkTup_d1, mkTup_d2, mkTup_d3, mkTup_d4, knownP, kHeads, kBodies, kOpens]
    · simp [b__law_known, e1, e2, e3, sizeMax, mkTup_d0, mkTup_d1, mkTup_d2, mkTup_d3, mkTup_d4, knownP, kHeads, kBodies, kOpens]
    · simp [b__law_known, e1, e2, e3, sizeMax, mkTup_d0, mkTup_d1, mkTup_d2, mkTup_d3, mkTup_d4, knownP, kHeads, kBodies, kOpens]
  obtain ⟨h5, e5, b5, x5⟩ := fn_d (n := 1) (k := 15) (body := b__law_known) (ws := [.ref 1]) rfl b b3 xx done
  exact ⟨k, c - 1, d, h5, e5, b5, x5, ⟨k0, k1⟩, ⟨by omega, by omega⟩, d0, d1⟩
theorem known_prog {k c d : Int} (hk : 0 ≤ k ∧ k < 3) : ProgK (fun _ _ _ => True) (kHeads k) (kOpens k) (knownP k c d) := by
  have hk : k = 0 ∨ k = 1 ∨ k = 2 := by omega
  have chk : ∀ (hs : List Head), (hs.all fun x => paramsB x.2 && nameB x.1) = true → ∀ x ∈ hs, ParamsOk x.2 ∧ nameB x.1 = true := fun hs h x hx => by
    have := List.all_eq_true.mp h x hx
    simp only [Bool.and_eq_true] at this
    exact ⟨paramsB_ok this.1, this.2⟩
  rcases hk with rfl | rfl | rfl
  · exact ⟨⟨_, rfl, .cons ⟨_, rfl, trivial⟩ (.cons ⟨_, rfl, trivial⟩ .nil)⟩, chk _ (by decide +kernel), by decide +kernel, by decide, by
      intro o ho; simp [kOpens] at ho; subst ho; exact ⟨_, by simp [kHeads]; right; rfl, by intro t ht; simp at ht, by simp⟩, by decide⟩
  · exact ⟨⟨_, rfl, .cons ⟨_, rfl, trivial⟩ (.cons ⟨_, rfl, trivial⟩ .nil)⟩, chk _ (by decide +kernel), by decide +kernel, by decide, by
      intro o ho; simp [kOpens] at ho; subst ho; exact ⟨_, by simp [kHeads]; right; rfl, by intro t ht; simp at ht, by simp⟩, by decide⟩
  · exact ⟨⟨_, rfl, .cons ⟨_, rfl, trivial⟩ (.cons ⟨_, rfl, trivial⟩ .nil)⟩, chk _ (by decide +kernel), by decide +kernel, by decide, by
      intro o ho; simp [kOpens] at ho; subst ho; exact ⟨_, by simp [kHeads]; right; rfl, by intro t ht; simp at ht; subst ht; simp, by simp⟩, by decide⟩
theorem ProgK.imp {B B' : List Head → Head → PyData → Prop} {opn : List Open} {P : PyData} (k : ProgK B hs opn P) (hi : ∀ x y, B hs x y → B' hs x y) : ProgK B' hs opn P := by
  obtain ⟨fs, e, a⟩ := k.shape
  exact ⟨⟨fs, e, a.imp fun x f ⟨y, h1, h2⟩ => ⟨y, h1, hi _ _ h2⟩⟩, k.heads, k.nd, k.ne, k.each, k.small⟩
theorem program_ok {d : Nat} (b : Bd ds h) (hd6 : d < 6) : ∃ (hs : List Head) (opn : List Open) (P : PyData) (h' : Hh), m__law_program [.ref 1, .d (.int (d : Int))] h = .ok (.d P) h' ∧ Bd ds h' ∧ Ex h h' ∧ ProgK (fun _ _ _ => True) hs opn P ∧
    (ProgK (fun hs x y => BodyK hs x.2 d y) hs opn P ∨ ∃ k c e, P = knownP k c e ∧ hs = kHeads k ∧ opn = kOpens k ∧ (0 ≤ k ∧ k < 3) ∧ (-1 ≤ c ∧ c ≤ 1) ∧ 0 ≤ e ∧ e < 2) := by
  obtain ⟨i, h1, e1, b1, x1, i0, i1⟩ := draw (many := 2) b (by omega)
  by_cases c : i = 0
  · subst c
    obtain ⟨k, c, e, h2, e2, b2, x2, hk, hc, he⟩ := known_ok b1
    obtain ⟨h5, e5, b5, x5⟩ := fn_d (n := 2) (k := 2) (body := b__law_program) (ws := [.ref 1, .d (.int (d : Int))]) (x := knownP k c e) rfl b b2 (x1.trans x2) (by simp [b__law_program, e1, e2])
    exact ⟨_, _, _, h5, e5, b5, x5, known_prog hk, .inr ⟨k, c, e, rfl, rfl, rfl, hk, hc, he⟩⟩
  · obtain ⟨hs, opn, P, h2, e2, b2, x2, hp⟩ := drawn_ok (d := d) b1 hd6
    obtain ⟨h5, e5, b5, x5⟩ := fn_d (n := 2) (k := 2) (body := b__law_program) (ws := [.ref 1, .d (.int (d : Int))]) (x := P) rfl b b2 (x1.trans x2) (by simp [b__law_program, e1, c, e2])
    exact ⟨hs, opn, P, h5, e5, b5, x5, hp.imp fun _ _ _ => trivial, .inl hp⟩
end
end Sp
end

section
namespace Sem
open Mi
/-! is_name: 0 thing, 1 sign -/
noncomputable def b_is_name : SM :=
  (sCons (sIf (tOr (tNot (tVal (eOp1 (isI "str") (eVar 0)))) (tNot (tVal (eChain opLe opLe (eCon (.int 1)) (eOpN bLen (aCons (eVar 0) aNil)) (eCon (.int 8))))))
  (sCons (sRet (eCon (.bool false)))
  sNil)
  sNil)
  (sCons (sRet (eOp2 opEq (eGc (eOpN bLen (aCons (eComp (iText (eVar 0)) [1] (.nm 1) (tVal (eOp2 opNotIn (eVar 1) (eCon (.str "abcdefghijklmnopqrstuvwxyz")))) (eVar 1)) aNil))) (eCon (.int 0))))
  sNil))
noncomputable def m_is_name : Fn := fn 1 2 b_is_name

/-! index_of: 0 program, 1 name, 2 names, 3 function -/
noncomputable def b_index_of : SM :=
  (sCons (sAsg (.nm 2) (eComp (iSeq (eOp2 opIx (eVar 0) (eCon (.int 1)))) [3] (.nm 3) tYes (eOp2 opIx (eVar 3) (eCon (.int 1)))))
  (sCons (sRet (eIf (tVal (eOp2 opIn (eVar 1) (eVar 2))) (eMetL mIndex (eVar 2) (aCons (eVar 1) aNil)) (eOp1 opNeg (eCon (.int 1)))))
  sNil))
noncomputable def m_index_of : Fn := fn 2 4 b_index_of

/-! open_of: 0 program, 1 name, 2 found, 3 pair -/
noncomputable def b_open_of : SM :=
  (sCons (sAsg (.nm 2) (eComp (iSeq (eOp2 opIx (eVar 0) (eCon (.int 2)))) [3] (.nm 3) (tVal (eOp2 opEq (eOp2 opIx (eVar 3) (eCon (.int 0))) (eVar 1))) (eOp2 opIx (eVar 3) (eCon (.int 1)))))
  (sCons (sRet (eIf (tVal (eOp2 opGt (eOpN bLen (aCons (eVar 2) aNil)) (eCon (.int 0)))) (eOp2 opIx (eVar 2) (eCon (.int 0))) (eCon .non)))
  sNil))
noncomputable def m_open_of : Fn := fn 2 4 b_open_of

/-! are_integers: 0 thing, 1 item -/
noncomputable def b_are_integers : SM :=
  (sCons (sRet (eAnd (eOp1 (isI "tuple") (eVar 0)) (eOp2 opEq (eGc (eOpN bLen (aCons (eComp (iSeq (eVar 0)) [1] (.nm 1) (tNot (tVal (eCall m_is_integer (aCons (eVar 1) aNil)))) (eVar 1)) aNil))) (eCon (.int 0)))))
  sNil)
noncomputable def m_are_integers : Fn := fn 1 2 b_are_integers

/-! fits: 0 params, 1 args, 2 k -/
noncomputable def l0_fits : SM :=
  (sCons (sIf (tAnd (tVal (eOp2 opEq (eOp2 opIx (eOp2 opIx (eVar 0) (eVar 2)) (eCon (.int 1))) (eCon (.str "int")))) (tNot (tVal (eCall m_is_integer (aCons (eOp2 opIx (eVar 1) (eVar 2)) aNil)))))
  (sCons (sRet (eCon (.bool false)))
  sNil)
  sNil)
  (sCons (sIf (tAnd (tVal (eOp2 opEq (eOp2 opIx (eOp2 opIx (eVar 0) (eVar 2)) (eCon (.int 1))) (eCon (.str "array")))) (tNot (tVal (eCall m_are_integers (aCons (eOp2 opIx (eVar 1) (eVar 2)) aNil)))))
  (sCons (sRet (eCon (.bool false)))
  sNil)
  sNil)
  sNil))
noncomputable def b_fits : SM :=
  (sCons (sIf (tOr (tNot (tVal (eOp1 (isI "tuple") (eVar 1)))) (tVal (eOp2 opNe (eOpN bLen (aCons (eVar 1) aNil)) (eOpN bLen (aCons (eVar 0) aNil)))))
  (sCons (sRet (eCon (.bool false)))
  sNil)
  sNil)
  (sCons (sFor (iRange1 (eOpN bLen (aCons (eVar 0) aNil))) (.nm 2)
  l0_fits)
  (sCons (sRet (eCon (.bool true)))
  sNil)))
noncomputable def m_fits : Fn := fn 2 3 b_fits

/-! sizes_of: 0 args, 1 item -/
noncomputable def b_sizes_of : SM :=
  (sCons (sRet (eOp2 opAdd (eTup (aCons (eCon (.int 0)) aNil)) (eGc (eOpN bTuple (aCons (eComp (iSeq (eVar 0)) [1] (.nm 1) tYes (eIf (tVal (eOp1 (isIs ["tuple", "list"]) (eVar 1))) (eOpN bLen (aCons (eVar 1) aNil)) (eVar 1))) aNil)))))
  sNil)
noncomputable def m_sizes_of : Fn := fn 1 2 b_sizes_of

/-! are_kept: 0 promises, 1 args, 2 sizes, 3 one -/
noncomputable def b_are_kept : SM :=
  (sCons (sAsg (.nm 2) (eCall m_sizes_of (aCons (eVar 1) aNil)))
  (sCons (sRet (eOp2 opEq (eGc (eOpN bLen (aCons (eComp (iSeq (eVar 0)) [3] (.nm 3) (tVal (eOp2 opGt (eOp2 opIx (eVar 2) (eOp2 opIx (eVar 3) (eCon (.int 0)))) (eOp2 opAdd (eOp2 opIx (eVar 2) (eOp2 opIx (eVar 3) (eCon (.int 1)))) (eOp2 opIx (eVar 3) (eCon (.int 2)))))) (eVar 3)) aNil))) (eCon (.int 0))))
  sNil))
noncomputable def m_are_kept : Fn := fn 2 4 b_are_kept

/-! check_call: 0 program, 1 thing -/
noncomputable def b_check_call : SM :=
  (sCons (sIf (tOr (tNot (tVal (eOp1 (isI "tuple") (eVar 1)))) (tOr (tVal (eOp2 opNe (eOpN bLen (aCons (eVar 1) aNil)) (eCon (.int 4)))) (tVal (eOp2 opNe (eOp2 opIx (eVar 1) (eCon (.int 0))) (eCon (.str "call"))))))
  (sCons (sRaise (xNew "BadEntry" ["place"] okA1 (aCons (eCon (.int 0)) aNil)))
  sNil)
  sNil)
  (sCons (sIf (tOr (tNot (tVal (eCall m_is_name (aCons (eOp2 opIx (eVar 1) (eCon (.int 1))) aNil)))) (tVal (eOp2 (opIsN false) (eCall m_open_of (aCons (eVar 0) (aCons (eOp2 opIx (eVar 1) (eCon (.int 1))) aNil))) (eCon .non))))
  (sCons (sRaise (xNew "BadEntry" ["place"] okA1 (aCons (eCon (.int 1)) aNil)))
  sNil)
  sNil)
  (sCons (sIf (tNot (tVal (eCall m_fits (aCons (eOp2 opIx (eOp2 opIx (eOp2 opIx (eVar 0) (eCon (.int 1))) (eCall m_index_of (aCons (eVar 0) (aCons (eOp2 opIx (eVar 1) (eCon (.int 1))) aNil)))) (eCon (.int 2))) (aCons (eOp2 opIx (eVar 1) (eCon (.int 2))) aNil)))))
  (sCons (sRaise (xNew "BadEntry" ["place"] okA1 (aCons (eCon (.int 2)) aNil)))
  sNil)
  sNil)
  (sCons (sIf (tNot (tVal (eCall m_are_integers (aCons (eOp2 opIx (eVar 1) (eCon (.int 3))) aNil))))
  (sCons (sRaise (xNew "BadEntry" ["place"] okA1 (aCons (eCon (.int 3)) aNil)))
  sNil)
  sNil)
  (sCons (sIf (tNot (tVal (eCall m_are_kept (aCons (eCall m_open_of (aCons (eVar 0) (aCons (eOp2 opIx (eVar 1) (eCon (.int 1))) aNil))) (aCons (eOp2 opIx (eVar 1) (eCon (.int 2))) aNil)))))
  (sCons (sRaise (xNew0 "BadState"))
  sNil)
  sNil)
  sNil)))))
noncomputable def m_check_call : Fn := fn 2 2 b_check_call

/-! _law_index: 0 program, 1 name, 2 function -/
noncomputable def b__law_index : SM :=
  (sCons (sRet (eMetL mIndex (eComp (iSeq (eOp2 opIx (eVar 0) (eCon (.int 1)))) [2] (.nm 2) tYes (eOp2 opIx (eVar 2) (eCon (.int 1)))) (aCons (eVar 1) aNil)))
  sNil)
noncomputable def m__law_index : Fn := fn 2 3 b__law_index

/-! _law_same: 0 actual, 1 due -/
noncomputable def b__law_same : SM :=
  (sCons (sRet (eOp2 opEq (eOpN bRepr2 (aCons (eVar 0) aNil)) (eOpN bRepr2 (aCons (eVar 1) aNil))))
  sNil)
noncomputable def m__law_same : Fn := fn 2 2 b__law_same

/-! _law_keeps: 0 program, 1 call, 2 sizes, 3 item, 4 size, 5 names, 6 pair, 7 i, 8 j, 9 c -/
noncomputable def l0__law_keeps : SM :=
  (sCons (sAsg (.nm 4) (eVar 3))
  (sCons (sIf (tVal (eOp1 (isI "tuple") (eVar 3)))
  (sCons (sAsg (.nm 4) (eOpN bLen (aCons (eVar 3) aNil)))
  sNil)
  sNil)
  (sCons (sExpr (eMetL mAppend (eVar 2) (aCons (eVar 4) aNil)))
  sNil)))
noncomputable def b__law_keeps : SM :=
  (sCons (sAsg (.nm 2) (eLst (aCons (eCon (.int 0)) aNil)))
  (sCons (sFor (iSeq (eOp2 opIx (eVar 1) (eCon (.int 2)))) (.nm 3)
  l0__law_keeps)
  (sCons (sAsg (.nm 5) (eComp (iSeq (eOp2 opIx (eVar 0) (eCon (.int 2)))) [6] (.nm 6) tYes (eOp2 opIx (eVar 6) (eCon (.int 0)))))
  (sCons (sRet (eGc (eOp2 opEq (eComp (iSeq (eOp2 opIx (eOp2 opIx (eOp2 opIx (eVar 0) (eCon (.int 2))) (eMetL mIndex (eVar 5) (aCons (eOp2 opIx (eVar 1) (eCon (.int 1))) aNil))) (eCon (.int 1)))) [7, 8, 9] (.tp [7, 8, 9]) (tVal (eOp2 opGt (eOp2 opIx (eVar 2) (eVar 7)) (eOp2 opAdd (eOp2 opIx (eVar 2) (eVar 8)) (eVar 9)))) (eCon (.int 1))) (eLst aNil))))
  sNil))))
noncomputable def m__law_keeps : Fn := fn 2 10 b__law_keeps

/-! _law_call: 0 box, 1 program, 2 name, 3 args, 4 param, 5 k -/
noncomputable def l0__law_call : SM :=
  (sCons (sIf (tVal (eOp2 opEq (eOp2 opIx (eVar 4) (eCon (.int 1))) (eCon (.str "int"))))
  (sCons (sAsg (.nm 3) (eOp2 opAdd (eVar 3) (eTup (aCons (eOp2 opSub (eCall m__law_draw (aCons (eVar 0) (aCons (eCon (.int 8)) aNil))) (eCon (.int 2))) aNil))))
  sNil)
  (sCons (sAsg (.nm 3) (eOp2 opAdd (eVar 3) (eTup (aCons (eGc (eOpN bTuple (aCons (eComp (iRange1 (eCall m__law_draw (aCons (eVar 0) (aCons (eCon (.int 5)) aNil)))) [5] (.nm 5) tYes (eOp2 opSub (eCall m__law_draw (aCons (eVar 0) (aCons (eCon (.int 6)) aNil))) (eCon (.int 2)))) aNil))) aNil))))
  sNil))
  sNil)
noncomputable def b__law_call : SM :=
  (sCons (sAsg (.nm 2) (eOp2 opIx (eCall m__law_pick (aCons (eVar 0) (aCons (eOp2 opIx (eVar 1) (eCon (.int 2))) aNil))) (eCon (.int 0))))
  (sCons (sAsg (.nm 3) (eTup aNil))
  (sCons (sFor (iSeq (eOp2 opIx (eOp2 opIx (eOp2 opIx (eVar 1) (eCon (.int 1))) (eCall m__law_index (aCons (eVar 1) (aCons (eVar 2) aNil)))) (eCon (.int 2)))) (.nm 4)
  l0__law_call)
  (sCons (sRet (eTup (aCons (eCon (.str "call")) (aCons (eVar 2) (aCons (eVar 3) (aCons (eGc (eOpN bTuple (aCons (eComp (iRange1 (eCall m__law_draw (aCons (eVar 0) (aCons (eCon (.int 4)) aNil)))) [5] (.nm 5) tYes (eOp2 opSub (eCall m__law_draw (aCons (eVar 0) (aCons (eCon (.int 7)) aNil))) (eCon (.int 3)))) aNil))) aNil))))))
  sNil))))
noncomputable def m__law_call : Fn := fn 2 6 b__law_call

/-! _law_whole: 0 thing -/
noncomputable def b__law_whole : SM :=
  (sCons (sRet (eAnd (eOp1 (isI "int") (eVar 0)) (eNot (eOp1 (isI "bool") (eVar 0)))))
  sNil)
noncomputable def m__law_whole : Fn := fn 1 1 b__law_whole

/-! _law_row: 0 thing, 1 item -/
noncomputable def b__law_row : SM :=
  (sCons (sRet (eAnd (eOp1 (isI "tuple") (eVar 0)) (eGc (eOp2 opEq (eComp (iSeq (eVar 0)) [1] (.nm 1) (tNot (tVal (eCall m__law_whole (aCons (eVar 1) aNil)))) (eVar 1)) (eLst aNil)))))
  sNil)
noncomputable def m__law_row : Fn := fn 1 2 b__law_row

/-! _law_due: 0 program, 1 thing, 2 pair, 3 params, 4 k, 5 fits_v -/
noncomputable def l0__law_due : SM :=
  (sCons (sAsg (.nm 5) (eCall m__law_row (aCons (eOp2 opIx (eOp2 opIx (eVar 1) (eCon (.int 2))) (eVar 4)) aNil)))
  (sCons (sIf (tVal (eOp2 opEq (eOp2 opIx (eOp2 opIx (eVar 3) (eVar 4)) (eCon (.int 1))) (eCon (.str "int"))))
  (sCons (sAsg (.nm 5) (eCall m__law_whole (aCons (eOp2 opIx (eOp2 opIx (eVar 1) (eCon (.int 2))) (eVar 4)) aNil)))
  sNil)
  sNil)
  (sCons (sIf (tNot (tVal (eVar 5)))
  (sCons (sRet (eCon (.int 2)))
  sNil)
  sNil)
  sNil)))
noncomputable def b__law_due : SM :=
  (sCons (sIf (tOr (tNot (tVal (eOp1 (isI "tuple") (eVar 1)))) (tOr (tVal (eOp2 opNe (eOpN bLen (aCons (eVar 1) aNil)) (eCon (.int 4)))) (tVal (eOp2 opNe (eOp2 opIx (eVar 1) (eCon (.int 0))) (eCon (.str "call"))))))
  (sCons (sRet (eCon (.int 0)))
  sNil)
  sNil)
  (sCons (sIf (tOr (tNot (tVal (eOp1 (isI "str") (eOp2 opIx (eVar 1) (eCon (.int 1)))))) (tGc (tVal (eOp2 opNotIn (eOp2 opIx (eVar 1) (eCon (.int 1))) (eComp (iSeq (eOp2 opIx (eVar 0) (eCon (.int 2)))) [2] (.nm 2) tYes (eOp2 opIx (eVar 2) (eCon (.int 0))))))))
  (sCons (sRet (eCon (.int 1)))
  sNil)
  sNil)
  (sCons (sAsg (.nm 3) (eOp2 opIx (eOp2 opIx (eOp2 opIx (eVar 0) (eCon (.int 1))) (eCall m__law_index (aCons (eVar 0) (aCons (eOp2 opIx (eVar 1) (eCon (.int 1))) aNil)))) (eCon (.int 2))))
  (sCons (sIf (tOr (tNot (tVal (eOp1 (isI "tuple") (eOp2 opIx (eVar 1) (eCon (.int 2)))))) (tVal (eOp2 opNe (eOpN bLen (aCons (eOp2 opIx (eVar 1) (eCon (.int 2))) aNil)) (eOpN bLen (aCons (eVar 3) aNil)))))
  (sCons (sRet (eCon (.int 2)))
  sNil)
  sNil)
  (sCons (sFor (iRange1 (eOpN bLen (aCons (eVar 3) aNil))) (.nm 4)
  l0__law_due)
  (sCons (sIf (tNot (tVal (eCall m__law_row (aCons (eOp2 opIx (eVar 1) (eCon (.int 3))) aNil))))
  (sCons (sRet (eCon (.int 3)))
  sNil)
  sNil)
  (sCons (sIf (tNot (tVal (eCall m__law_keeps (aCons (eVar 0) (aCons (eVar 1) aNil)))))
  (sCons (sRet (eCon (.str "kept")))
  sNil)
  sNil)
  (sCons (sRet (eCon .non))
  sNil))))))))
noncomputable def m__law_due : Fn := fn 2 6 b__law_due

/-! _law_told: 0 program, 1 thing, 2 error -/
/-- what the law's clause catches -/
def cm_told (y : PySem.Str) : Option Bool := if y = PySem.Str.ofString "BadEntry" then some true else if y = PySem.Str.ofString "BadState" then some true else none
/-- what it tells of it -/
def f_told (x : Ex) : Option PySem.PyData := if x.cls = PySem.Str.ofString "BadEntry" then (match x.fs with
    | [(n, v)] => if n = PySem.Str.ofString "place" then some v else none
    | _ => none) else if x.cls = PySem.Str.ofString "BadState" then some (.str (PySem.Str.ofString "kept")) else none

noncomputable def b__law_told : SM :=
  (sCons (sTryR 2 cm_told (sCons (sRet (eCall m_check_call (aCons (eVar 0) (aCons (eVar 1) aNil))))
  sNil) f_told)
  sNil)
noncomputable def m__law_told : Fn := fn 2 3 b__law_told

/-! _law_spoilt: 0 box, 1 call, 2 word, 3 name, 4 args, 5 outside, 6 odd, 7 kind, 8 place -/
noncomputable def b__law_spoilt : SM :=
  (sCons (sAsg (.tp [2, 3, 4, 5]) (eVar 1))
  (sCons (sAsg (.nm 6) (eCall m__law_pick (aCons (eVar 0) (aCons (eLst (aCons (eCon .non) (aCons (eCon (.bool true)) (aCons (eCon (.str "1")) (aCons (eTup aNil) (aCons (eTup (aCons (eCon (.bool true)) aNil)) (aCons (eLst (aCons (eCon (.int 1)) aNil)) (aCons (eTup (aCons (eCon (.int 1)) (aCons (eCon .non) aNil))) (aCons (eTup (aCons (eTup (aCons (eCon (.int 1)) aNil)) aNil)) (aCons (eCon (.str "f")) (aCons (eCon (.int 5)) aNil))))))))))) aNil))))
  (sCons (sAsg (.nm 7) (eCall m__law_draw (aCons (eVar 0) (aCons (eCon (.int 9)) aNil))))
  (sCons (sAsg (.nm 8) (eCall m__law_draw (aCons (eVar 0) (aCons (eOp2 opAdd (eOpN bLen (aCons (eVar 4) aNil)) (eCon (.int 1))) aNil))))
  (sCons (sIf (tVal (eOp2 opEq (eVar 7) (eCon (.int 0))))
  (sCons (sRet (eCall m__law_pick (aCons (eVar 0) (aCons (eLst (aCons (eCon .non) (aCons (eTup aNil) (aCons (eSl opSl (eVar 1) pNone (pSome (eCon (.int 3)))) (aCons (eOp2 opAdd (eVar 1) (eTup (aCons (eCon (.int 0)) aNil))) (aCons (eOpN bList (aCons (eVar 1) aNil)) (aCons (eCon (.str "call")) (aCons (eOp2 opAdd (eTup (aCons (eCon (.str "calls")) aNil)) (eSl opSl (eVar 1) (pSome (eCon (.int 1))) pNone)) (aCons (eOp2 opAdd (eTup (aCons (eCon (.int 0)) aNil)) (eSl opSl (eVar 1) (pSome (eCon (.int 1))) pNone)) aNil))))))))) aNil))))
  sNil)
  sNil)
  (sCons (sIf (tVal (eOp2 opEq (eVar 7) (eCon (.int 1))))
  (sCons (sRet (eTup (aCons (eVar 2) (aCons (eCall m__law_pick (aCons (eVar 0) (aCons (eLst (aCons (eCon (.str "nobody")) (aCons (eCon (.str "f")) (aCons (eCon (.str "g")) (aCons (eCon .non) (aCons (eCon (.int 0)) (aCons (eTup (aCons (eCon (.str "f")) aNil)) aNil))))))) aNil))) (aCons (eVar 4) (aCons (eVar 5) aNil))))))
  sNil)
  sNil)
  (sCons (sIf (tVal (eOp2 opEq (eVar 7) (eCon (.int 2))))
  (sCons (sRet (eTup (aCons (eVar 2) (aCons (eVar 3) (aCons (eOp2 opAdd (eSl opSl (eVar 4) pNone (pSome (eVar 8))) (eSl opSl (eVar 4) (pSome (eOp2 opAdd (eVar 8) (eCon (.int 1)))) pNone)) (aCons (eVar 5) aNil))))))
  sNil)
  sNil)
  (sCons (sIf (tVal (eOp2 opEq (eVar 7) (eCon (.int 3))))
  (sCons (sRet (eTup (aCons (eVar 2) (aCons (eVar 3) (aCons (eOp2 opAdd (eOp2 opAdd (eSl opSl (eVar 4) pNone (pSome (eVar 8))) (eTup (aCons (eVar 6) aNil))) (eSl opSl (eVar 4) (pSome (eOp2 opAdd (eVar 8) (eCon (.int 1)))) pNone)) (aCons (eVar 5) aNil))))))
  sNil)
  sNil)
  (sCons (sIf (tVal (eOp2 opEq (eVar 7) (eCon (.int 4))))
  (sCons (sRet (eTup (aCons (eVar 2) (aCons (eVar 3) (aCons (eCall m__law_pick (aCons (eVar 0) (aCons (eLst (aCons (eCon .non) (aCons (eOpN bList (aCons (eVar 4) aNil)) (aCons (eOp2 opAdd (eVar 4) (eTup (aCons (eCon (.int 0)) aNil))) aNil)))) aNil))) (aCons (eVar 5) aNil))))))
  sNil)
  sNil)
  (sCons (sIf (tVal (eOp2 opEq (eVar 7) (eCon (.int 5))))
  (sCons (sRet (eTup (aCons (eVar 2) (aCons (eVar 3) (aCons (eVar 4) (aCons (eCall m__law_pick (aCons (eVar 0) (aCons (eLst (aCons (eCon .non) (aCons (eLst aNil) (aCons (eTup (aCons (eCon (.bool true)) aNil)) (aCons (eTup (aCons (eCon (.str "1")) aNil)) (aCons (eCon (.int 3)) (aCons (eTup (aCons (eCon (.int 1)) (aCons (eTup (aCons (eCon (.int 2)) aNil)) aNil))) aNil))))))) aNil))) aNil))))))
  sNil)
  sNil)
  (sCons (sRet (eVar 1))
  sNil)))))))))))
noncomputable def m__law_spoilt : Fn := fn 2 9 b__law_spoilt

/-! _law_eight: 0 box, 1 names, 2 kinds, 3 heads, 4 name, 5 params, 6 k, 7 functions, 8 opens -/
noncomputable def l1__law_eight : SM :=
  (sCons (sAsg (.nm 5) (eOp2 opAdd (eVar 5) (eTup (aCons (eTup (aCons (eGc (eOp2 opIx (eLst (aCons (eCon (.str "x")) (aCons (eCon (.str "abcdefgx")) (aCons (eCon (.str "y")) (aCons (eCon (.str "zzzzzzzy")) (aCons (eCon (.str "p")) aNil)))))) (eVar 6))) (aCons (eOp2 opIx (eVar 2) (eVar 6)) aNil))) aNil))))
  sNil)
noncomputable def l0__law_eight : SM :=
  (sCons (sAsg (.nm 5) (eTup aNil))
  (sCons (sFor (iRange1 (eCon (.int 5))) (.nm 6)
  l1__law_eight)
  (sCons (sExpr (eMetL mAppend (eVar 3) (aCons (eTup (aCons (eVar 4) (aCons (eVar 5) aNil))) aNil)))
  sNil)))
noncomputable def b__law_eight : SM :=
  (sCons (sAsg (.nm 1) (eLst (aCons (eCon (.str "abcdefgh")) (aCons (eCon (.str "bcd")) (aCons (eCon (.str "zzzzzzzz")) (aCons (eCon (.str "q")) (aCons (eCon (.str "counter")) (aCons (eCon (.str "walkon")) (aCons (eCon (.str "f")) (aCons (eCon (.str "halving")) aNil))))))))))
  (sCons (sAsg (.nm 2) (eCall m__law_pick (aCons (eVar 0) (aCons (eLst (aCons (eLst (aCons (eCon (.str "int")) (aCons (eCon (.str "array")) (aCons (eCon (.str "int")) (aCons (eCon (.str "int")) (aCons (eCon (.str "array")) aNil)))))) (aCons (eOp2 opMul (eLst (aCons (eCon (.str "int")) aNil)) (eCon (.int 5))) (aCons (eLst (aCons (eCon (.str "array")) (aCons (eCon (.str "int")) (aCons (eCon (.str "int")) (aCons (eCon (.str "array")) (aCons (eCon (.str "int")) aNil)))))) aNil)))) aNil))))
  (sCons (sAsg (.nm 3) (eLst aNil))
  (sCons (sFor (iSeq (eVar 1)) (.nm 4)
  l0__law_eight)
  (sCons (sAsg (.nm 7) (eGc (eOpN bTuple (aCons (eComp (iSeq (eVar 3)) [4, 5] (.tp [4, 5]) tYes (eTup (aCons (eCon (.str "fun")) (aCons (eVar 4) (aCons (eVar 5) (aCons (eCall (m__law_body 6) (aCons (eVar 0) (aCons (eVar 3) (aCons (eOpN bDict2 (aCons (eVar 5) aNil)) (aCons (eCon (.int 2)) aNil))))) aNil)))))) aNil))))
  (sCons (sAsg (.nm 8) (eGc (eOpN bTuple (aCons (eComp (iSeq (eVar 3)) [4, 5] (.tp [4, 5]) tYes (eTup (aCons (eVar 4) (aCons (eCall m__law_promises (aCons (eVar 0) (aCons (eCon (.int 6)) aNil))) aNil)))) aNil))))
  (sCons (sRet (eTup (aCons (eCon (.str "program")) (aCons (eVar 7) (aCons (eVar 8) aNil)))))
  sNil)))))))
noncomputable def m__law_eight : Fn := fn 1 9 b__law_eight

/-! law: 0 script, 1 box, 2 turn, 3 program, 4 time, 5 thing -/
noncomputable def l1_law : SM :=
  (sCons (sAsg (.nm 5) (eCall m__law_spoilt (aCons (eVar 1) (aCons (eCall m__law_call (aCons (eVar 1) (aCons (eVar 3) aNil))) aNil))))
  (sCons (sIf (tNot (tVal (eCall m__law_same (aCons (eCall m__law_told (aCons (eVar 3) (aCons (eVar 5) aNil))) (aCons (eCall m__law_due (aCons (eVar 3) (aCons (eVar 5) aNil))) aNil)))))
  (sCons (sRet (eCon (.bool false)))
  sNil)
  sNil)
  sNil))
noncomputable def l0_law : SM :=
  (sCons (sAsg (.nm 3) (eCall m__law_program (aCons (eVar 1) (aCons (eCon (.int 2)) aNil))))
  (sCons (sIf (tVal (eOp2 opEq (eCall m__law_draw (aCons (eVar 1) (aCons (eCon (.int 3)) aNil))) (eCon (.int 0))))
  (sCons (sAsg (.nm 3) (eCall m__law_eight (aCons (eVar 1) aNil)))
  sNil)
  sNil)
  (sCons (sFor (iRange1 (eCon (.int 7))) (.nm 4)
  l1_law)
  sNil)))
noncomputable def b_law : SM :=
  (sCons (sAsg (.nm 1) (eLst (aCons (eCall m__law_digits (aCons (eVar 0) (aCons (eCon (.int 0)) (aCons (eCon (.int 63)) aNil)))) (aCons (eCon (.int 0)) aNil))))
  (sCons (sFor (iRange1 (eCon (.int 3))) (.nm 2)
  l0_law)
  (sCons (sRet (eCon (.bool true)))
  sNil)))
noncomputable def m_law : Fn := fn 1 6 b_law
end Sem
end

section
/-! Sp21: the law k21: what is asked of a thing. -/
namespace Sp
open Mi Sem
open PySem (PyData Str)
section
variable {h : Hh} {w u : W}
theorem tyW_app {T : Hh} {t : String} (e : tyW h w = some t) : tyW (h ++ T) w = some t := by
  unfold tyW at e ⊢
  split at e <;> first | exact e | skip
  · rename_i p
    split at e
    · rename_i hm; rw [List.getElem?_append_left (List.getElem?_eq_some_iff.mp hm).1, hm]; exact e
    · rename_i hm; rw [List.getElem?_append_left (List.getElem?_eq_some_iff.mp hm).1, hm]; exact e
    · rename_i hm; rw [List.getElem?_append_left (List.getElem?_eq_some_iff.mp hm).1, hm]; exact e
    · cases e
theorem dataW_app {T : Hh} : ∀ (n : Nat) (w : W) (d : PyData), dataW h n w = some d → dataW (h ++ T) n w = some d
  | 0, w, d, e => by
    cases w with
    | d x => simpa [dataW] using e
    | ref _ => simp [dataW] at e
    | mix _ => simp [dataW] at e
  | n + 1, w, d, e => by
    have mm : ∀ (ws : List W) (xs : List PyData), ws.mapM (dataW h n) = some xs → ws.mapM (dataW (h ++ T) n) = some xs := by
      intro ws
      induction ws with
      | nil => intro xs e; exact e
      | cons x ws ih =>
        intro xs e
        rw [List.mapM_cons] at e ⊢
        cases hx : dataW h n x with
        | none => rw [hx] at e; cases e
        | some y =>
          rw [hx] at e
          rw [dataW_app n x y hx]
          cases hw : ws.mapM (dataW h n) with
          | none => rw [hw] at e; cases e
          | some ys =>
            rw [hw] at e
            rw [ih ys hw]
            exact e
    cases w with
    | d x => simpa [dataW] using e
    | ref p =>
      unfold dataW at e ⊢
      split at e
      · rename_i ws hm
        rw [List.getElem?_append_left (List.getElem?_eq_some_iff.mp hm).1, hm]
        cases hw : ws.mapM (dataW h n) with
        | none => rw [hw] at e; cases e
        | some ys =>
          rw [hw] at e
          simp only [mm ws ys hw]
          exact e
      · cases e
    | mix ws =>
      unfold dataW at e ⊢
      cases hw : ws.mapM (dataW h n) with
      | none => rw [hw] at e; cases e
      | some ys =>
        rw [hw] at e
        simp only [mm ws ys hw]
        exact e
/-- a whole number -/
def isInt (h : Hh) (w : W) : Bool := decide (tyW h w = some "int")
/-- something whose kind is known -/
def Ty (h : Hh) (w : W) : Prop := ∃ t, tyW h w = some t
def G0 (h : Hh) (w : W) : Prop := Ty h w ∧ ∃ d, dataW h 4 w = some d
/-- something, its items too -/
def V1 (h : Hh) (w : W) : Prop := Ty h w ∧ ∀ ws, w.items = some ws → ws.length ≤ 1000 ∧ ∀ u ∈ ws, G0 h u
def V2 (h : Hh) (w : W) : Prop := Ty h w ∧ ∀ ws, w.items = some ws → ws.length ≤ 1000 ∧ ∀ u ∈ ws, V1 h u
theorem ty_tuple {t : String} (e : tyW h w = some t) : (t = "tuple" ↔ ∃ ws, w.items = some ws) := by
  unfold tyW at e
  split at e <;> (try (cases e)) <;> (try (simp [W.items]; done))
  · rename_i p
    split at e <;> cases e <;> simp [W.items]
theorem isI_ok {t T : String} (e : tyW h w = some t) : isI T w h = some (.bool (t == T || (t == "bool" && T == "int")), h) := by simp [isI, e]
theorem int_val (e : isInt h w = true) : ∃ i, w = .d (.int i) := by
  have e := of_decide_eq_true e
  unfold tyW at e
  split at e <;> (try (simp at e; done))
  · exact ⟨_, rfl⟩
  · split at e <;> simp at e
theorem str_val (e : tyW h w = some "str") : ∃ s, w = .d (.str s) := by
  unfold tyW at e
  split at e <;> (try (simp at e; done))
  · exact ⟨_, rfl⟩
  · split at e <;> simp at e
theorem isint_ok {t : String} (e : tyW h w = some t) : m_is_integer [w] h = .ok (.bool (isInt h w)) h := by
  have e1 := isI_ok (T := "int") e
  have e2 := isI_ok (T := "bool") e
  have hd : (isInt h w) = ((t == "int" || (t == "bool")) && !(t == "bool")) := by
    unfold isInt
    rw [e]
    by_cases h1 : t = "int"
    · subst h1; decide
    · by_cases h2 : t = "bool"
      · subst h2; decide
      · simp [h1, h2]
  simp [m_is_integer, fn, b_is_integer, e1, e2, hd]
  by_cases h1 : t = "int"
  · subst h1; simp
  · by_cases h2 : t = "bool"
    · subst h2; simp
    · simp [h1, h2]
theorem whole_ok {t : String} (e : tyW h w = some t) : m__law_whole [w] h = .ok (.bool (isInt h w)) h := by
  have e1 := isI_ok (T := "int") e
  have e2 := isI_ok (T := "bool") e
  have hd : (isInt h w) = ((t == "int" || (t == "bool")) && !(t == "bool")) := by
    unfold isInt
    rw [e]
    by_cases h1 : t = "int"
    · subst h1; decide
    · by_cases h2 : t = "bool"
      · subst h2; decide
      · simp [h1, h2]
  simp [m__law_whole, fn, b__law_whole, e1, e2, hd]
  by_cases h1 : t = "int"
  · subst h1; simp
  · by_cases h2 : t = "bool"
    · subst h2; simp
    · simp [h1, h2]
/-- a tuple of whole numbers -/
def rowB (h : Hh) (w : W) : Bool := match w.items with
  | some ws => ws.all (isInt h)
  | none => false
theorem isInt_app {T : Hh} (hu : Ty h w) : isInt (h ++ T) w = isInt h w := by
  obtain ⟨t, ht⟩ := hu
  unfold isInt
  rw [tyW_app ht, ht]
theorem fil_nil {ws : List W} : (ws.filter fun u => !isInt h u).isEmpty = ws.all (isInt h) := by
  induction ws with
  | nil => rfl
  | cons u ws ih =>
    cases hu : isInt h u
    · simp [List.filter_cons, hu]
    · simpa [List.filter_cons, hu] using ih
theorem seq_items {ws : List W} {L : Loc} {i : Nat} (hL : L[i]? = some (some w)) (hw : w.items = some ws) : iSeq (eVar i) L h = .ok (.tp ws) h := by
  have hnr : ∀ a, w ≠ .ref a := fun a e => by subst e; simp [W.items] at hw
  cases w with
  | d x => simp [hL, hw]
  | ref a => exact absurd rfl (hnr a)
  | mix xs => simp [hL, hw]
theorem fil_ok {f : Fn} {L : Loc} {ws : List W} (hf : ∀ (u : W) (T : Hh), u ∈ ws → f [u] (h ++ T) = .ok (.bool (isInt h u)) (h ++ T)) (hL : L[0]? = some (some w)) (hlen : L.length = 2) (hw : w.items = some ws) (hl : ws.length ≤ 1000) :
    eComp (iSeq (eVar 0)) [1] (.nm 1) (tNot (tVal (eCall f (aCons (eVar 1) aNil)))) (eVar 1) L h = .ok (.ref h.length) (h ++ [.lst (ws.filter fun u => !isInt h u)]) := by
  have key := eComp_pure (i := iSeq (eVar 0)) (vs := [1]) (g := .nm 1) (t := tNot (tVal (eCall f (aCons (eVar 1) aNil)))) (e := eVar 1) (L := L) (h0 := h) (h := h) (enc := fun u => u) (s := .tp ws) (fun u => !isInt h u) (fun u => u) ws
    (seq_items hL hw) (by simp) (fun _ => trivial) (by simp only [sizeMax]; omega) (fun u hu => ⟨(wipeL L [1]).set 1 (some u), rfl, fun acc => by
      have hg : ((wipeL L [1]).set 1 (some u))[1]? = some (some u) := by
        rw [List.getElem?_set_self]; simp [wipeL, hlen]
      refine ⟨?_, fun _ => by simp [hg]⟩
      simp [hg, hf u _ hu]⟩)
  rw [key]; simp
theorem are_ok (v : V1 h w) : m_are_integers [w] h = .ok (.bool (rowB h w)) h := by
  obtain ⟨⟨t, ht⟩, hv⟩ := v
  have e1 := isI_ok (T := "tuple") ht
  cases hi : w.items with
  | none =>
    have : ¬ t = "tuple" := fun z => by obtain ⟨ws, e⟩ := (ty_tuple ht).mp z; rw [hi] at e; cases e
    simp [m_are_integers, fn, b_are_integers, e1, this, rowB, hi]
  | some ws =>
    have z := (ty_tuple ht).mpr ⟨ws, hi⟩
    obtain ⟨hl, hu⟩ := hv ws hi
    have ef := fil_ok (f := m_is_integer) (L := [some w, none]) (w := w) (h := h) (fun u T hm => by
      obtain ⟨t', ht'⟩ := (hu u hm).1
      rw [isint_ok (tyW_app ht'), isInt_app ⟨t', ht'⟩]) rfl rfl hi hl
    have eg : eGc (eOpN bLen (aCons (eComp (iSeq (eVar 0)) [1] (.nm 1) (tNot (tVal (eCall m_is_integer (aCons (eVar 1) aNil)))) (eVar 1)) aNil)) [some w, none] h = .ok (.int ((ws.filter fun u => !isInt h u).length : Nat)) h := by
      refine eGc_ok (h' := h ++ [.lst (ws.filter fun u => !isInt h u)]) ?_ (by simp) List.take_left
      rw [eOpN_eq, aCons_eq, ef]
      simp [bLen]
    have hb : (((ws.filter fun u => !isInt h u).length : Nat) : Int) == 0 ↔ ws.all (isInt h) = true := by
      rw [← fil_nil]
      cases (ws.filter fun u => !isInt h u) <;> simp
      omega
    have hb2 : ((((ws.filter fun u => !isInt h u).length : Nat) : Int) == 0) = rowB h w := by
      unfold rowB
      rw [hi]
      exact Bool.eq_iff_iff.mpr hb
    simp [m_are_integers, fn, b_are_integers, e1, z, eg, hb2]
end
end Sp
end

section
/-! Sq21: rows, fits. -/
namespace Sp
open Mi Sem
open PySem (PyData Str)
section
variable {h : Hh} {w u : W}
theorem mapM_some {ws : List W} {n : Nat} (hu : ∀ u ∈ ws, ∃ d, dataW h n u = some d) : ∃ xs, ws.mapM (dataW h n) = some xs ∧ xs.length = ws.length := by
  induction ws with
  | nil => exact ⟨[], rfl, rfl⟩
  | cons u ws ih =>
    obtain ⟨d, hd⟩ := hu u List.mem_cons_self
    obtain ⟨xs, e, hl⟩ := ih fun v hv => hu v (List.mem_cons_of_mem _ hv)
    exact ⟨d :: xs, by rw [List.mapM_cons, hd, e]; rfl, by simp [hl]⟩
theorem eqnil_w {ws : List W} {neg : Bool} {a b : Nat} {M : Hh} (ha : M[a]? = some (.lst ws)) (hu : ∀ u ∈ ws, ∃ d, dataW M 4 u = some d) (hb : M[b]? = some (.lst [])) : opEqB neg (.ref a) (.ref b) M = some (.bool (neg != ws.isEmpty), M) := by
  obtain ⟨xs, e, hl⟩ := mapM_some hu
  have e1 : dataW M dataDeep (.ref a) = some (.list xs) := by
    show dataW M 5 (.ref a) = _
    unfold dataW
    rw [ha]
    simp only [e, Option.map_some]
  have e2 : dataW M dataDeep (.ref b) = some (.list []) := by
    show dataW M 5 (.ref b) = _
    unfold dataW
    rw [hb]
    rfl
  have : min (PyData.list xs).depth (PyData.list ([] : List PyData)).depth ≤ roomDeep := by
    refine Nat.le_trans (Nat.min_le_right _ _) ?_
    simp [PyData.depth, PyData.depthAll, roomDeep]
  simp only [opEqB, e1, e2, this, if_true]
  have : ws.isEmpty = xs.isEmpty := by
    cases xs <;> cases ws <;> simp at hl ⊢
  rw [this]
  cases xs <;> simp [PyData.eqv, PyData.eqvAll]
theorem row_ok (v : V1 h w) : m__law_row [w] h = .ok (.bool (rowB h w)) h := by
  obtain ⟨⟨t, ht⟩, hv⟩ := v
  have e1 := isI_ok (T := "tuple") ht
  cases hi : w.items with
  | none =>
    have : ¬ t = "tuple" := fun z => by obtain ⟨ws, e⟩ := (ty_tuple ht).mp z; rw [hi] at e; cases e
    simp [m__law_row, fn, b__law_row, e1, this, rowB, hi]
  | some ws =>
    have z := (ty_tuple ht).mpr ⟨ws, hi⟩
    obtain ⟨hl, hu⟩ := hv ws hi
    have ef := fil_ok (f := m__law_whole) (L := [some w, none]) (w := w) (h := h) (fun u T hm => by
      obtain ⟨t', ht'⟩ := (hu u hm).1
      rw [whole_ok (tyW_app ht'), isInt_app ⟨t', ht'⟩]) rfl rfl hi hl
    have eg : eGc (eOp2 opEq (eComp (iSeq (eVar 0)) [1] (.nm 1) (tNot (tVal (eCall m__law_whole (aCons (eVar 1) aNil)))) (eVar 1)) (eLst aNil)) [some w, none] h = .ok (.bool (rowB h w)) h := by
      refine eGc_ok (h' := h ++ [.lst (ws.filter fun u => !isInt h u)] ++ [.lst []]) ?_ (by simp) (by rw [List.append_assoc]; exact List.take_left)
      rw [eOp2_eq, ef]
      have := eqnil_w (neg := false) (a := h.length) (b := (h ++ [O.lst (ws.filter fun u => !isInt h u)]).length) (ws := ws.filter fun u => !isInt h u) (M := h ++ [.lst (ws.filter fun u => !isInt h u)] ++ [.lst []]) (by simp) (fun u hm => by
        obtain ⟨_, d, hd⟩ := hu u (List.mem_filter.mp hm).1
        exact ⟨d, by rw [List.append_assoc]; exact dataW_app 4 u d hd⟩) (by simp)
      simp only [R.bind_ok, eLst_eq, aNil_eq, List.length_nil, Nat.zero_le, if_true]
      rw [show opEq = opEqB false from rfl, this, fil_nil]
      simp [rowB, hi]
    simp [m__law_row, fn, b__law_row, e1, z, eg]
/-- the argument u for a parameter of the kind k -/
def fitB (h : Hh) (k : Str) (u : W) : Bool := if k = Str.ofString "int" then isInt h u else rowB h u
def fitsAll (h : Hh) : List (Str × Str) → List W → Bool
  | [], _ => true
  | q :: ps, u :: us => fitB h q.2 u && fitsAll h ps us
  | _ :: _, [] => false
/-- what args are right -/
def argsB (h : Hh) (ps : List (Str × Str)) (w : W) : Bool := match w.items with
  | some ws => decide (ws.length = ps.length) && fitsAll h ps ws
  | none => false
theorem fitsAll_iff {ps : List (Str × Str)} {ws : List W} (hl : ws.length = ps.length) : fitsAll h ps ws = true ↔ ∀ (i : Nat) (q : Str × Str) (u : W), ps[i]? = some q → ws[i]? = some u → fitB h q.2 u = true := by
  induction ps generalizing ws with
  | nil => simp [fitsAll]
  | cons q ps ih =>
    cases ws with
    | nil => simp at hl
    | cons u ws =>
      simp only [fitsAll, Bool.and_eq_true]
      rw [ih (by simpa using hl)]
      constructor
      · rintro ⟨h1, h2⟩ i q' u' e1 e2
        cases i with
        | zero => simp at e1 e2; subst e1 e2; exact h1
        | succ i => exact h2 i q' u' (by simpa using e1) (by simpa using e2)
      · intro hh
        exact ⟨hh 0 q u rfl rfl, fun i q' u' e1 e2 => hh (i + 1) q' u' (by simpa using e1) (by simpa using e2)⟩
theorem opIx_w {ws : List W} {n : Nat} {x : W} {M : Hh} (hw : w.items = some ws) (hx : ws[n]? = some x) : opIx w (.d (.int (n : Int))) M = some (x, M) := by
  cases w with
  | d y =>
    cases y <;> simp [W.items] at hw
    subst hw
    simp [opIx, atI_lt hx]
  | ref a => simp [W.items] at hw
  | mix xs =>
    simp [W.items] at hw
    subst hw
    simp [opIx, W.items, atI_lt hx]
theorem bLen_w {ws : List W} {M : Hh} (hw : w.items = some ws) : bLen [w] M = some (.int (ws.length : Nat), M) := by
  cases w with
  | d y =>
    cases y <;> simp [W.items] at hw
    subst hw
    simp [bLen]
  | ref a => simp [W.items] at hw
  | mix xs =>
    simp [W.items] at hw
    subst hw
    simp [bLen, W.items]
theorem fits_ok {ps : List (Str × Str)} (hk : KindsOk ps) (hp : ps.length ≤ 5) (v : V2 h w) : m_fits [.d (enPs ps), w] h = .ok (.bool (argsB h ps w)) h := by
  obtain ⟨⟨t, ht⟩, hv⟩ := v
  have e1 := isI_ok (T := "tuple") ht
  have elp : bLen [.d (enPs ps)] h = some (.int (ps.length : Nat), h) := by simp [bLen]
  cases hi : w.items with
  | none =>
    have : ¬ t = "tuple" := fun z => by obtain ⟨ws, e⟩ := (ty_tuple ht).mp z; rw [hi] at e; cases e
    simp [m_fits, fn, b_fits, e1, this, argsB, hi]
  | some ws =>
    have z := (ty_tuple ht).mpr ⟨ws, hi⟩
    obtain ⟨hl, hu⟩ := hv ws hi
    have elw := bLen_w (M := h) hi
    by_cases hne : ws.length = ps.length
    · have hb : argsB h ps w = fitsAll h ps ws := by simp [argsB, hi, hne]
      have loop := forL_numR (ok := (Src.rg 0 ps.length).ok) (g := .nm 2) (body := l0_fits) (n := ps.length)
        (fun i L h' => (∃ y, L = [some (.d (enPs ps)), some w, y]) ∧ h' = h ∧ ∀ (j : Nat) (q : Str × Str) (u : W), j < i → ps[j]? = some q → ws[j]? = some u → fitB h q.2 u = true)
        (fun r h' => r = .bool false ∧ h' = h ∧ fitsAll h ps ws = false) (fun _ _ _ _ => trivial)
        (fun i L h' hin ⟨⟨y, eL⟩, eh, hall⟩ => by
          subst eL eh
          refine ⟨[some (.d (enPs ps)), some w, some (.int (i : Int))], rfl, ?_⟩
          obtain ⟨q, hq⟩ : ∃ q, ps[i]? = some q := ⟨ps[i], by simp [hin]⟩
          obtain ⟨u, hu'⟩ : ∃ u, ws[i]? = some u := ⟨ws[i]'(by omega), by simp [hne, hin]⟩
          have vu := hu u (List.mem_of_getElem? hu')
          obtain ⟨tu, htu⟩ := vu.1
          have ei := isint_ok (h := h') htu
          have ea := are_ok vu
          have ex1 : opIx (.d (enPs ps)) (.d (.int (i : Int))) h' = some (.d (enP q), h') := opIx_tup (by simp [hq])
          have ex2 : opIx (.d (enP q)) (.d (.int 1)) h' = some (.d (.str q.2), h') := opIx_tup (n := 1) rfl
          have ex3 := opIx_w (M := h') hi hu'
          have hne2 : ¬ Str.ofString "array" = Str.ofString "int" := by decide +kernel
          have hqk := hk q (List.mem_of_getElem? hq)
          cases hf : fitB h' q.2 u with
          | true =>
            refine .inl ⟨[some (.d (enPs ps)), some w, some (.int (i : Int))], h', .inl ?_, ⟨_, rfl⟩, rfl, fun j q' u' hj e2 e3 => ?_⟩
            · unfold fitB at hf
              rcases hqk with hqk | hqk
              · rw [hqk] at ex2
                rw [if_pos hqk] at hf
                have hne3 : ¬ Str.ofString "int" = Str.ofString "array" := fun z => hne2 z.symm
                simp [l0_fits, ex1, ex2, ex3, ei, hf, hne3]
              · rw [hqk] at ex2
                rw [if_neg (by rw [hqk]; exact hne2)] at hf
                simp [l0_fits, ex1, ex2, ex3, ea, hf, hne2]
            · by_cases hji : j = i
              · subst hji
                rw [hq] at e2; rw [hu'] at e3
                cases e2; cases e3
                exact hf
              · exact hall j q' u' (by omega) e2 e3
          | false =>
            refine .inr ⟨.bool false, h', ?_, rfl, rfl, ?_⟩
            · unfold fitB at hf
              rcases hqk with hqk | hqk
              · rw [hqk] at ex2
                rw [if_pos hqk] at hf
                simp [l0_fits, ex1, ex2, ex3, ei, hf]
              · rw [hqk] at ex2
                rw [if_neg (by rw [hqk]; exact hne2)] at hf
                simp [l0_fits, ex1, ex2, ex3, ea, hf, hne2]
            · rw [Bool.eq_false_iff]
              intro hc
              have := (fitsAll_iff hne).mp hc i q u hq hu'
              rw [hf] at this; cases this)
        (L := [some (.d (enPs ps)), some w, none]) (h := h) ⟨⟨_, rfl⟩, rfl, fun j q u hj => absurd hj (Nat.not_lt_zero _)⟩
      have hb1 : (ps.length : Int) < 4611686018427387904 := by omega
      have hb2 : -4611686018427387904 ≤ (ps.length : Int) := by omega
      rcases loop with ⟨L2, h2, e2, ⟨y, rfl⟩, rfl, hall⟩ | ⟨r, h2, e2, rfl, rfl, hf⟩
      · have ht2 : fitsAll h2 ps ws = true := (fitsAll_iff hne).mpr fun i q u e1 e2 => hall i q u (by have := (List.getElem?_eq_some_iff.mp e1).1; omega) e1 e2
        rw [hb, ht2]
        simp [m_fits, fn, b_fits, e1, z, elp, elw, hne, hb1, hb2, e2]
      · rw [hb, hf]
        simp [m_fits, fn, b_fits, e1, z, elp, elw, hne, hb1, hb2, e2]
    · have hb : argsB h ps w = false := by simp [argsB, hi, hne]
      have hne2 : ¬ ((ws.length : Nat) : Int) = ((ps.length : Nat) : Int) := by omega
      rw [hb]
      simp [m_fits, fn, b_fits, e1, z, elp, elw, hne2]
end
end Sp
end

section
/-! Sr21: names, sizes, promises. -/
namespace Sp
open Mi Sem
open PySem (PyData Str)
section
variable {h : Hh} {w u : W}
theorem depth_strs : ∀ ns : List Str, PyData.depthAll (ns.map PyData.str) ≤ 1
  | [] => by simp [PyData.depthAll]
  | n :: ns => by
    have := depth_strs ns
    simp [PyData.depthAll, PyData.depth]
    omega
theorem data_strs {ns : List Str} {a : Nat} {M : Hh} (n : Nat) (ha : M[a]? = some (.lst (ns.map W.str))) : dataW M (n + 1) (.ref a) = some (.list (ns.map PyData.str)) := by
  unfold dataW
  rw [ha]
  have : ns.map W.str = (ns.map PyData.str).map W.d := by simp
  rw [this]
  simp only [mapM_dataW_d, Option.map_some]
theorem eqv_str (x y : Str) : PyData.eqv (.str x) (.str y) = decide (x = y) := by
  by_cases e : x = y
  · simp [PyData.eqv, e]
  · simp [PyData.eqv, e]
theorem in_strs {ns : List Str} {a : Nat} {M : Hh} {n : Str} {neg : Bool} (ha : M[a]? = some (.lst (ns.map W.str))) : opInB neg (.d (.str n)) (.ref a) M = some (.bool (neg != decide (n ∈ ns)), M) := by
  have e1 := data_strs 4 ha
  have e2 : dataW M dataDeep (.d (.str n)) = some (.str n) := by simp [dataW]
  have hd : min (PyData.depthAll (ns.map PyData.str)) (PyData.str n).depth ≤ roomDeep := by
    have := depth_strs ns
    simp only [roomDeep]
    omega
  have hany : ((ns.map PyData.str).any fun z => PyData.eqv z (.str n)) = decide (n ∈ ns) := by
    rw [List.any_map]
    apply Bool.eq_iff_iff.mpr
    simp only [List.any_eq_true, Function.comp_apply, eqv_str, decide_eq_true_eq]
    exact ⟨fun ⟨x, h1, h2⟩ => h2 ▸ h1, fun h1 => ⟨n, h1, rfl⟩⟩
  simp only [opInB, ha]
  rw [show dataW M dataDeep (.ref a) = some (.list (ns.map PyData.str)) from e1, e2]
  simp only [hd, if_true, hany]
theorem idx_strs {ns : List Str} {a : Nat} {M : Hh} {n : Str} (ha : M[a]? = some (.lst (ns.map W.str))) (hn : n ∈ ns) : mIndex [.ref a, .d (.str n)] M = some (.int ((ns.idxOf n : Nat) : Int), M) := by
  have e1 := data_strs 4 ha
  have e2 : dataW M dataDeep (.d (.str n)) = some (.str n) := by simp [dataW]
  have hd : (PyData.list (ns.map PyData.str)).depth ≤ 64 ∧ (PyData.str n).depth ≤ 64 := by
    have := depth_strs ns
    constructor
    · simp only [PyData.depth]; omega
    · simp [PyData.depth]
  have hi : idxOf (ns.map PyData.str) (.str n) = some (ns.idxOf n) := by
    unfold idxOf
    rw [List.findIdx?_map]
    have : ((fun z => PyData.eqv z (.str n)) ∘ PyData.str) = fun x => x == n := by
      funext x
      simp only [Function.comp_apply, eqv_str]
      by_cases e : x = n <;> simp [e]
    rw [this]
    have hl : ns.idxOf n < ns.length := List.idxOf_lt_length_of_mem hn
    rw [List.findIdx?_eq_some_iff_findIdx_eq]
    exact ⟨hl, rfl⟩
  simp only [mIndex, ha]
  rw [show dataW M dataDeep (.ref a) = some (.list (ns.map PyData.str)) from e1, e2]
  simp only [hd, if_true, and_self, hi, Option.map_some]
  rfl
theorem idxOf_get {ns : List Str} {n : Str} (hn : n ∈ ns) : ns[ns.idxOf n]? = some n := by
  have hl := List.idxOf_lt_length_of_mem hn
  rw [List.getElem?_eq_getElem hl, List.getElem_idxOf]
theorem find_idx {α : Type} {xs : List (Str × α)} {n : Str} : (xs.find? fun x => decide (x.1 = n)) = xs[(xs.map (·.1)).idxOf n]? := by
  induction xs with
  | nil => rfl
  | cons x xs ih =>
    rw [List.find?_cons, List.map_cons, List.idxOf_cons]
    by_cases e : x.1 = n
    · simp [e]
    · have e2 : (x.1 == n) = false := by simpa using e
      rw [e2]
      simp only [e, decide_false, cond_false, List.getElem?_cons_succ]
      exact ih
/-! ### sizes -/
def sz (u : W) : Int := match u with
  | .d (.int i) => i
  | u => ((u.items.getD []).length : Nat)
theorem fit_sz {k : Str} (hf : fitB h k u = true) : (∃ i, u = .d (.int i) ∧ sz u = i) ∨ ∃ vs, u.items = some vs ∧ sz u = (vs.length : Nat) ∧ tyW h u = some "tuple" := by
  unfold fitB at hf
  split at hf
  · obtain ⟨i, rfl⟩ := int_val hf
    exact .inl ⟨i, rfl, rfl⟩
  · unfold rowB at hf
    split at hf
    · rename_i vs hv
      right
      refine ⟨vs, hv, ?_, ?_⟩
      · cases u with
        | d x => cases x <;> simp [W.items] at hv; subst hv; simp [sz, W.items]
        | ref a => simp [W.items] at hv
        | mix xs => simp [W.items] at hv; subst hv; simp [sz, W.items]
      · cases u with
        | d x => cases x <;> simp [W.items] at hv; rfl
        | ref a => simp [W.items] at hv
        | mix xs => rfl
    · cases hf
def szs (ws : List W) : List Int := 0 :: ws.map sz
theorem sizes_ok {ws : List W} (hi : w.items = some ws) (hl : ws.length ≤ 1000) (hf : ∀ u ∈ ws, ∃ k, fitB h k u = true) : m_sizes_of [w] h = .ok (.d (.tuple ((szs ws).map PyData.int))) h := by
  have key := eComp_pure (i := iSeq (eVar 0)) (vs := [1]) (g := .nm 1) (t := tYes) (e := eIf (tVal (eOp1 (isIs ["tuple", "list"]) (eVar 1))) (eOpN bLen (aCons (eVar 1) aNil)) (eVar 1)) (L := [some w, none]) (h0 := h) (h := h) (enc := fun u => u) (s := .tp ws) (fun _ => true) (fun u => W.int (sz u)) ws
    (seq_items rfl hi) (by simp) (fun _ => trivial) (by simp only [sizeMax]; omega) (fun u hu => ⟨[some w, some u], rfl, fun acc => ⟨rfl, fun _ => by
      obtain ⟨k, hk⟩ := hf u hu
      rcases fit_sz hk with ⟨i, rfl, hs⟩ | ⟨vs, hv, hs, ht⟩
      · simp [isIs, tyW, hs]
      · have := tyW_app (T := [.lst acc]) ht
        simp [isIs, this, bLen_w hv, hs]⟩⟩)
  have eg : eGc (eOpN bTuple (aCons (eComp (iSeq (eVar 0)) [1] (.nm 1) tYes (eIf (tVal (eOp1 (isIs ["tuple", "list"]) (eVar 1))) (eOpN bLen (aCons (eVar 1) aNil)) (eVar 1))) aNil)) [some w, none] h = .ok (.d (.tuple ((ws.map sz).map PyData.int))) h := by
    refine eGc_ok (h' := h ++ [.lst ((ws.filter fun _ => true).map fun u => W.int (sz u))]) ?_ (by simp) List.take_left
    rw [eOpN_eq, aCons_eq, key]
    have : mkTup ((ws.filter fun _ => true).map fun u => W.int (sz u)) = .d (.tuple ((ws.map sz).map PyData.int)) := by
      rw [← mkTup_map]; congr 1; simp [List.filter_eq_self.mpr]
    simp only [R.bind_ok, aNil_eq, bTuple]
    simp [this]
  have hadd : opAdd (.d (.tuple [.int 0])) (.d (.tuple ((ws.map sz).map PyData.int))) h = some (.d (.tuple ((szs ws).map PyData.int)), h) := by
    have : mkTup ([W.d (.int 0)] ++ ((ws.map sz).map PyData.int).map W.d) = .d (.tuple ((szs ws).map PyData.int)) := by
      rw [← mkTup_map]; simp [szs]
    simp only [opAdd, W.items_d, List.length_map, List.map_cons, List.map_nil, List.length_cons, List.length_nil, sizeMax]
    rw [if_pos (by omega)]
    simpa using this
  simp only [fn, List.length_cons, List.length_nil, if_true, List.map_cons, List.map_nil, List.replicate, List.cons_append, List.nil_append, Nat.reduceAdd, Nat.reduceSub, Nat.reduceLeDiff, sizeMax, sCons_eq, sRet_eq, sRetN_eq, sIf_eq, sAsg_eq, sExpr_eq, sNil_eq, put_nm, List.set_cons_succ, List.set_cons_zero, eVar_eq, eCon_eq, eOp1_eq, eOp2_eq, eOpN_eq, eCall_eq, eIf_eq, eAnd_eq, eNot_eq, eTup_eq, eLst_eq, aCons_eq, aNil_eq, tVal_eq, tAnd_eq, tOr_eq, tNot_eq, tYes_eq, onB_some, asBool_bool, List.getElem?_cons_succ, List.getElem?_cons_zero, R.bind_ok, R.of_some, R.then_ok, Out.seq_nx, Out.seq_rt, outR_rt, outR_nx, tidy_ok, cmp_int, eq_int, add_int, sub_int, gc_d, Bool.not_true, Bool.not_false, Bool.false_eq_true, if_false, m_sizes_of, b_sizes_of, mkTup_d1, eg, hadd]
/-- a promise that is kept -/
def keepB (zs : List Int) (t : Int × Int × Int) : Bool := !decide (zs.getD t.1.toNat 0 > zs.getD t.2.1.toNat 0 + t.2.2)
theorem ix_ints {zs : List Int} {i : Int} {M : Hh} (h0 : 0 ≤ i) (h1 : i < zs.length) : opIx (.d (.tuple (zs.map PyData.int))) (.d (.int i)) M = some (.int (zs.getD i.toNat 0), M) := by
  obtain ⟨j, rfl⟩ : ∃ j : Nat, i = j := ⟨i.toNat, by omega⟩
  have : zs[j]? = some (zs.getD j 0) := by
    rw [List.getD_eq_getElem?_getD]
    rw [List.getElem?_eq_getElem (by omega)]
    rfl
  rw [Int.toNat_natCast]
  exact opIx_tup (by rw [List.getElem?_map, this]; rfl)
theorem kept_ok {ws : List W} {ts : List (Int × Int × Int)} (hi : w.items = some ws) (hl : ws.length ≤ 1000) (hf : ∀ u ∈ ws, ∃ k, fitB h k u = true) (hp : PromsOk ((ws.length : Int) + 1) ts) (htl : ts.length ≤ 2) : m_are_kept [.d (.tuple (ts.map enQ)), w] h = .ok (.bool (ts.all (keepB (szs ws)))) h := by
  have es := sizes_ok hi hl hf
  have hlen : ((szs ws).length : Int) = (ws.length : Int) + 1 := by simp [szs]
  have key := eComp_pure (i := iSeq (eVar 0)) (vs := [3]) (g := .nm 3) (t := tVal (eOp2 opGt (eOp2 opIx (eVar 2) (eOp2 opIx (eVar 3) (eCon (.int 0)))) (eOp2 opAdd (eOp2 opIx (eVar 2) (eOp2 opIx (eVar 3) (eCon (.int 1)))) (eOp2 opIx (eVar 3) (eCon (.int 2)))))) (e := eVar 3)
    (L := [some (.d (.tuple (ts.map enQ))), some w, some (.d (.tuple ((szs ws).map PyData.int))), none]) (h0 := h) (h := h) (enc := fun t => W.d (enQ t)) (s := .tp (ts.map fun t => W.d (enQ t))) (fun t => !keepB (szs ws) t) (fun t => W.d (enQ t)) ts
    (by simp) rfl (fun _ => trivial) (by simp only [sizeMax]; omega) (fun t ht => ⟨[some (.d (.tuple (ts.map enQ))), some w, some (.d (.tuple ((szs ws).map PyData.int))), some (.d (enQ t))], rfl, fun acc => by
      obtain ⟨⟨a0, a1⟩, ⟨c0, c1⟩, _⟩ := hp t ht
      have e1 := ix_ints (zs := szs ws) (M := h ++ [.lst acc]) a0 (by omega)
      have e2 := ix_ints (zs := szs ws) (M := h ++ [.lst acc]) c0 (by omega)
      have x0 : opIx (.d (enQ t)) (.d (.int 0)) (h ++ [.lst acc]) = some (.int t.1, h ++ [.lst acc]) := opIx_tup (n := 0) rfl
      have x1 : opIx (.d (enQ t)) (.d (.int 1)) (h ++ [.lst acc]) = some (.int t.2.1, h ++ [.lst acc]) := opIx_tup (n := 1) rfl
      have x2 : opIx (.d (enQ t)) (.d (.int 2)) (h ++ [.lst acc]) = some (.int t.2.2, h ++ [.lst acc]) := opIx_tup (n := 2) rfl
      refine ⟨?_, fun _ => by simp⟩
      simp only [fn, List.length_cons, List.length_nil, if_true, List.map_cons, List.map_nil, List.replicate, List.cons_append, List.nil_append, Nat.reduceAdd, Nat.reduceSub, Nat.reduceLeDiff, sizeMax, sCons_eq, sRet_eq, sRetN_eq, sIf_eq, sAsg_eq, sExpr_eq, sNil_eq, put_nm, List.set_cons_succ, List.set_cons_zero, eVar_eq, eCon_eq, eOp1_eq, eOp2_eq, eOpN_eq, eCall_eq, eIf_eq, eAnd_eq, eNot_eq, eTup_eq, eLst_eq, aCons_eq, aNil_eq, tVal_eq, tAnd_eq, tOr_eq, tNot_eq, tYes_eq, onB_some, asBool_bool, List.getElem?_cons_succ, List.getElem?_cons_zero, R.bind_ok, R.of_some, R.then_ok, Out.seq_nx, Out.seq_rt, outR_rt, outR_nx, tidy_ok, cmp_int, eq_int, add_int, sub_int, gc_d, Bool.not_true, Bool.not_false, Bool.false_eq_true, if_false, x0, x1, x2, e1, e2, keepB, Bool.not_not]⟩)
  have eg : eGc (eOpN bLen (aCons (eComp (iSeq (eVar 0)) [3] (.nm 3) (tVal (eOp2 opGt (eOp2 opIx (eVar 2) (eOp2 opIx (eVar 3) (eCon (.int 0)))) (eOp2 opAdd (eOp2 opIx (eVar 2) (eOp2 opIx (eVar 3) (eCon (.int 1)))) (eOp2 opIx (eVar 3) (eCon (.int 2)))))) (eVar 3)) aNil)) [some (.d (.tuple (ts.map enQ))), some w, some (.d (.tuple ((szs ws).map PyData.int))), none] h = .ok (.int ((ts.filter fun t => !keepB (szs ws) t).length : Nat)) h := by
    refine eGc_ok (h' := h ++ [.lst ((ts.filter fun t => !keepB (szs ws) t).map fun t => W.d (enQ t))]) ?_ (by simp) List.take_left
    rw [eOpN_eq, aCons_eq, key]
    simp only [R.bind_ok, aNil_eq, bLen, List.getElem?_append_right (Nat.le_refl _), Nat.sub_self, List.getElem?_cons_zero, R.of_some, List.length_map]
  have hb : ((((ts.filter fun t => !keepB (szs ws) t).length : Nat) : Int) == 0) = ts.all (keepB (szs ws)) := by
    have : (ts.filter fun t => !keepB (szs ws) t).isEmpty = ts.all (keepB (szs ws)) := by
      clear key eg hp htl
      induction ts with
      | nil => rfl
      | cons t ts ih =>
        cases hk : keepB (szs ws) t
        · simp [List.filter_cons, hk]
        · simpa [List.filter_cons, hk] using ih
    rw [← this]
    cases (ts.filter fun t => !keepB (szs ws) t) <;> simp
    omega
  simp only [fn, List.length_cons, List.length_nil, if_true, List.map_cons, List.map_nil, List.replicate, List.cons_append, List.nil_append, Nat.reduceAdd, Nat.reduceSub, Nat.reduceLeDiff, sizeMax, sCons_eq, sRet_eq, sRetN_eq, sIf_eq, sAsg_eq, sExpr_eq, sNil_eq, put_nm, List.set_cons_succ, List.set_cons_zero, eVar_eq, eCon_eq, eOp1_eq, eOp2_eq, eOpN_eq, eCall_eq, eIf_eq, eAnd_eq, eNot_eq, eTup_eq, eLst_eq, aCons_eq, aNil_eq, tVal_eq, tAnd_eq, tOr_eq, tNot_eq, tYes_eq, onB_some, asBool_bool, List.getElem?_cons_succ, List.getElem?_cons_zero, R.bind_ok, R.of_some, R.then_ok, Out.seq_nx, Out.seq_rt, outR_rt, outR_nx, tidy_ok, cmp_int, eq_int, add_int, sub_int, gc_d, Bool.not_true, Bool.not_false, Bool.false_eq_true, if_false, m_are_kept, b_are_kept, es, eg, hb, Bool.false_bne]
end
end Sp
end

section
/-! Ss21: a program asked by names. -/
namespace Sp
open Mi Sem
open PySem (PyData Str)
section
variable {h : Hh} {w u : W} {B : List Head → Head → PyData → Prop} {hs : List Head} {opn : List Open} {P : PyData} {fs : List PyData}
abbrev enProg (fs : List PyData) (opn : List Open) : PyData := .tuple [.str "program", .tuple fs, .tuple (opn.map enO)]
abbrev FunOf (B : List Head → Head → PyData → Prop) (hs : List Head) (x : Head) (f : PyData) : Prop := ∃ y, f = .tuple [.str "fun", .str x.1, enPs x.2, y] ∧ B hs x y
theorem p1 {M : Hh} : opIx (.d (enProg fs opn)) (.d (.int 1)) M = some (.d (.tuple fs), M) := opIx_tup (n := 1) rfl
theorem p2 {M : Hh} : opIx (.d (enProg fs opn)) (.d (.int 2)) M = some (.d (.tuple (opn.map enO)), M) := opIx_tup (n := 2) rfl
/-- a function's name -/
def sec (f : PyData) : Str := match f with
  | .tuple [_, .str n, _, _] => n
  | _ => Str.ofString ""
theorem sec_names (a : All2 (FunOf B hs) hs fs) : fs.map sec = hs.map (·.1) := by
  have : ∀ {xs : List Head} {fs : List PyData}, All2 (FunOf B hs) xs fs → fs.map sec = xs.map (·.1) := by
    intro xs fs a
    induction a with
    | nil => rfl
    | cons h1 _ ih => obtain ⟨y, rfl, _⟩ := h1; rw [List.map_cons, List.map_cons, ih]; rfl
  exact this a
theorem sec_ix {f : PyData} {M : Hh} (a : All2 (FunOf B hs) hs fs) (hf : f ∈ fs) : opIx (.d f) (.d (.int 1)) M = some (W.str (sec f), M) := by
  have : ∀ {xs : List Head} {fs : List PyData}, All2 (FunOf B hs) xs fs → f ∈ fs → opIx (.d f) (.d (.int 1)) M = some (W.str (sec f), M) := by
    intro xs fs a
    induction a with
    | nil => intro hf; simp at hf
    | cons h1 _ ih =>
      intro hf
      rcases List.mem_cons.mp hf with e | hf
      · obtain ⟨y, h2, _⟩ := h1; rw [e, h2]; exact opIx_tup (n := 1) rfl
      · exact ih hf
  exact this a hf
/-- the names of the functions -/
theorem names_ok {L : Loc} {i j : Nat} (a : All2 (FunOf B hs) hs fs) (hl : hs.length ≤ 8) (hL : L[i]? = some (some (.d (enProg fs opn)))) (hj : j < L.length) : eComp (iSeq (eOp2 opIx (eVar i) (eCon (.int 1)))) [j] (.nm j) tYes (eOp2 opIx (eVar j) (eCon (.int 1))) L h = .ok (.ref h.length) (h ++ [.lst ((hs.map (·.1)).map W.str)]) := by
  have hfl : fs.length = hs.length := a.length.symm
  have hi : iSeq (eOp2 opIx (eVar i) (eCon (.int 1))) L h = .ok (.tp (fs.map W.d)) h := by
    rw [iSeq_eq]; simp only [eOp2_eq, eVar_eq, hL, R.bind_ok, eCon_eq, p1, R.of_some, W.items_d]
  have key := eComp_pure (i := iSeq (eOp2 opIx (eVar i) (eCon (.int 1)))) (vs := [j]) (g := .nm j) (t := tYes) (e := eOp2 opIx (eVar j) (eCon (.int 1))) (L := L) (h0 := h) (h := h) (enc := W.d) (s := .tp (fs.map W.d)) (fun _ => true) (fun f => W.str (sec f)) fs
    hi rfl (fun _ => trivial) (by simp only [sizeMax]; omega) (fun f hf => ⟨(wipeL L [j]).set j (some (.d f)), rfl, fun acc => ⟨rfl, fun _ => by
      have hg : ((wipeL L [j]).set j (some (W.d f)))[j]? = some (some (.d f)) := by rw [List.getElem?_set_self]; simp [wipeL, hj]
      simp only [eOp2_eq, eVar_eq, hg, R.bind_ok, eCon_eq, sec_ix a hf, R.of_some]⟩⟩)
  rw [key]
  have : (fs.filter fun _ => true).map (fun f => W.str (sec f)) = (hs.map (·.1)).map W.str := by
    rw [← sec_names a, List.map_map, List.filter_eq_self.mpr (by simp)]; rfl
  rw [this]
theorem index_ok {n : Str} (a : All2 (FunOf B hs) hs fs) (hl : hs.length ≤ 8) (hn : n ∈ hs.map (·.1)) : m_index_of [.d (enProg fs opn), .d (.str n)] h = .ok (.int (((hs.map (·.1)).idxOf n : Nat) : Int)) h := by
  have e1 := names_ok (opn := opn) (h := h) (L := [some (.d (enProg fs opn)), some (.d (.str n)), none, none]) (i := 0) (j := 3) a hl rfl (by simp)
  have e2 := in_strs (neg := false) (n := n) (ns := hs.map (·.1)) (a := h.length) (M := h ++ [.lst ((hs.map (·.1)).map W.str)]) (by simp)
  have e3 := idx_strs (n := n) (ns := hs.map (·.1)) (a := h.length) (M := h ++ [.lst ((hs.map (·.1)).map W.str)]) (by simp) hn
  have e4 : isLst (h ++ [.lst ((hs.map (·.1)).map W.str)]) (.ref h.length) = true := by simp [isLst]
  rw [decide_eq_true hn] at e2
  simp only [fn, List.length_cons, List.length_nil, if_true, List.map_cons, List.map_nil, List.replicate, List.cons_append, List.nil_append, Nat.reduceAdd, Nat.reduceSub, Nat.reduceLeDiff, sizeMax, sCons_eq, sRet_eq, sRetN_eq, sIf_eq, sAsg_eq, sExpr_eq, sNil_eq, put_nm, List.set_cons_succ, List.set_cons_zero, eVar_eq, eCon_eq, eOp1_eq, eOp2_eq, eOpN_eq, eCall_eq, eIf_eq, eAnd_eq, eNot_eq, eTup_eq, eLst_eq, aCons_eq, aNil_eq, tVal_eq, tAnd_eq, tOr_eq, tNot_eq, tYes_eq, onB_some, asBool_bool, List.getElem?_cons_succ, List.getElem?_cons_zero, R.bind_ok, R.of_some, R.then_ok, Out.seq_nx, Out.seq_rt, outR_rt, outR_nx, tidy_ok, cmp_int, eq_int, add_int, sub_int, gc_d, Bool.not_true, Bool.not_false, Bool.false_eq_true, if_false, m_index_of, b_index_of, e1, show opIn = opInB false from rfl, e2, Bool.false_bne, eMetL_eq, e4, e3, gc_d_app]
theorem lindex_ok {n : Str} (a : All2 (FunOf B hs) hs fs) (hl : hs.length ≤ 8) (hn : n ∈ hs.map (·.1)) : m__law_index [.d (enProg fs opn), .d (.str n)] h = .ok (.int (((hs.map (·.1)).idxOf n : Nat) : Int)) h := by
  have e1 := names_ok (opn := opn) (h := h) (L := [some (.d (enProg fs opn)), some (.d (.str n)), none]) (i := 0) (j := 2) a hl rfl (by simp)
  have e3 := idx_strs (n := n) (ns := hs.map (·.1)) (a := h.length) (M := h ++ [.lst ((hs.map (·.1)).map W.str)]) (by simp) hn
  have e4 : isLst (h ++ [.lst ((hs.map (·.1)).map W.str)]) (.ref h.length) = true := by simp [isLst]
  simp only [fn, List.length_cons, List.length_nil, if_true, List.map_cons, List.map_nil, List.replicate, List.cons_append, List.nil_append, Nat.reduceAdd, Nat.reduceSub, Nat.reduceLeDiff, sizeMax, sCons_eq, sRet_eq, sRetN_eq, sIf_eq, sAsg_eq, sExpr_eq, sNil_eq, put_nm, List.set_cons_succ, List.set_cons_zero, eVar_eq, eCon_eq, eOp1_eq, eOp2_eq, eOpN_eq, eCall_eq, eIf_eq, eAnd_eq, eNot_eq, eTup_eq, eLst_eq, aCons_eq, aNil_eq, tVal_eq, tAnd_eq, tOr_eq, tNot_eq, tYes_eq, onB_some, asBool_bool, List.getElem?_cons_succ, List.getElem?_cons_zero, R.bind_ok, R.of_some, R.then_ok, Out.seq_nx, Out.seq_rt, outR_rt, outR_nx, tidy_ok, cmp_int, eq_int, add_int, sub_int, gc_d, Bool.not_true, Bool.not_false, Bool.false_eq_true, if_false, m__law_index, b__law_index, eMetL_eq, e1, e4, e3, gc_d_app]
/-- the function of that name -/
theorem fun_at {n : Str} {M : Hh} (a : All2 (FunOf B hs) hs fs) (hn : n ∈ hs.map (·.1)) : ∃ x f, hs[(hs.map (·.1)).idxOf n]? = some x ∧ x.1 = n ∧ x ∈ hs ∧ opIx (.d (.tuple fs)) (.d (.int (((hs.map (·.1)).idxOf n : Nat) : Int))) M = some (.d f, M) ∧ opIx (.d f) (.d (.int 2)) M = some (.d (enPs x.2), M) := by
  have h1 := idxOf_get hn
  rw [List.getElem?_map] at h1
  obtain ⟨x, h2, h3⟩ := Option.map_eq_some_iff.mp h1
  obtain ⟨f, h4, y, rfl, _⟩ := a.get _ x h2
  exact ⟨x, _, h2, h3, List.mem_of_getElem? h2, opIx_tup h4, opIx_tup (n := 2) rfl⟩
/-! ### opens -/
theorem open_ok {n : Str} (hl : opn.length ≤ 8) : m_open_of [.d (enProg fs opn), .d (.str n)] h = .ok (match opn.find? (fun o => decide (o.1 = n)) with | some o => .d (.tuple (o.2.map enQ)) | none => .d .none) h := by
  have hi : iSeq (eOp2 opIx (eVar 0) (eCon (.int 2))) [some (.d (enProg fs opn)), some (.d (.str n)), none, none] h = .ok (.tp (opn.map fun o => W.d (enO o))) h := by
    rw [iSeq_eq]; simp only [fn, List.length_cons, List.length_nil, if_true, List.map_cons, List.map_nil, List.replicate, List.cons_append, List.nil_append, Nat.reduceAdd, Nat.reduceSub, Nat.reduceLeDiff, sizeMax, sCons_eq, sRet_eq, sRetN_eq, sIf_eq, sAsg_eq, sExpr_eq, sNil_eq, put_nm, List.set_cons_succ, List.set_cons_zero, eVar_eq, eCon_eq, eOp1_eq, eOp2_eq, eOpN_eq, eCall_eq, eIf_eq, eAnd_eq, eNot_eq, eTup_eq, eLst_eq, aCons_eq, aNil_eq, tVal_eq, tAnd_eq, tOr_eq, tNot_eq, tYes_eq, onB_some, asBool_bool, List.getElem?_cons_succ, List.getElem?_cons_zero, R.bind_ok, R.of_some, R.then_ok, Out.seq_nx, Out.seq_rt, outR_rt, outR_nx, tidy_ok, cmp_int, eq_int, add_int, sub_int, gc_d, Bool.not_true, Bool.not_false, Bool.false_eq_true, if_false, p2, W.items_d, List.map_map]; rfl
  have key := eComp_pure (i := iSeq (eOp2 opIx (eVar 0) (eCon (.int 2)))) (vs := [3]) (g := .nm 3) (t := tVal (eOp2 opEq (eOp2 opIx (eVar 3) (eCon (.int 0))) (eVar 1))) (e := eOp2 opIx (eVar 3) (eCon (.int 1))) (L := [some (.d (enProg fs opn)), some (.d (.str n)), none, none]) (h0 := h) (h := h) (enc := fun o => W.d (enO o)) (s := .tp (opn.map fun o => W.d (enO o))) (fun o => decide (o.1 = n)) (fun o => W.d (.tuple (o.2.map enQ))) opn
    hi rfl (fun _ => trivial) (by simp only [sizeMax]; omega) (fun o ho => ⟨[some (.d (enProg fs opn)), some (.d (.str n)), none, some (.d (enO o))], rfl, fun acc => by
      have x0 : opIx (.d (enO o)) (.d (.int 0)) (h ++ [.lst acc]) = some (W.str o.1, h ++ [.lst acc]) := opIx_tup (n := 0) rfl
      have x1 : opIx (.d (enO o)) (.d (.int 1)) (h ++ [.lst acc]) = some (.d (.tuple (o.2.map enQ)), h ++ [.lst acc]) := opIx_tup (n := 1) rfl
      exact ⟨by simp only [fn, List.length_cons, List.length_nil, if_true, List.map_cons, List.map_nil, List.replicate, List.cons_append, List.nil_append, Nat.reduceAdd, Nat.reduceSub, Nat.reduceLeDiff, sizeMax, sCons_eq, sRet_eq, sRetN_eq, sIf_eq, sAsg_eq, sExpr_eq, sNil_eq, put_nm, List.set_cons_succ, List.set_cons_zero, eVar_eq, eCon_eq, eOp1_eq, eOp2_eq, eOpN_eq, eCall_eq, eIf_eq, eAnd_eq, eNot_eq, eTup_eq, eLst_eq, aCons_eq, aNil_eq, tVal_eq, tAnd_eq, tOr_eq, tNot_eq, tYes_eq, onB_some, asBool_bool, List.getElem?_cons_succ, List.getElem?_cons_zero, R.bind_ok, R.of_some, R.then_ok, Out.seq_nx, Out.seq_rt, outR_rt, outR_nx, tidy_ok, cmp_int, eq_int, add_int, sub_int, gc_d, Bool.not_true, Bool.not_false, Bool.false_eq_true, if_false, x0, show opEq = opEqB false from rfl, eq_strs, Bool.false_bne], fun _ => by simp only [fn, List.length_cons, List.length_nil, if_true, List.map_cons, List.map_nil, List.replicate, List.cons_append, List.nil_append, Nat.reduceAdd, Nat.reduceSub, Nat.reduceLeDiff, sizeMax, sCons_eq, sRet_eq, sRetN_eq, sIf_eq, sAsg_eq, sExpr_eq, sNil_eq, put_nm, List.set_cons_succ, List.set_cons_zero, eVar_eq, eCon_eq, eOp1_eq, eOp2_eq, eOpN_eq, eCall_eq, eIf_eq, eAnd_eq, eNot_eq, eTup_eq, eLst_eq, aCons_eq, aNil_eq, tVal_eq, tAnd_eq, tOr_eq, tNot_eq, tYes_eq, onB_some, asBool_bool, List.getElem?_cons_succ, List.getElem?_cons_zero, R.bind_ok, R.of_some, R.then_ok, Out.seq_nx, Out.seq_rt, outR_rt, outR_nx, tidy_ok, cmp_int, eq_int, add_int, sub_int, gc_d, Bool.not_true, Bool.not_false, Bool.false_eq_true, if_false, x1]⟩⟩)
  rw [← List.head?_filter]
  cases hf : opn.filter fun o => decide (o.1 = n) with
  | nil =>
    rw [hf] at key
    have e2 : bLen [.ref h.length] (h ++ [.lst (List.map (fun o : Open => W.d (.tuple (o.2.map enQ))) [])]) = some (.int 0, h ++ [.lst (List.map (fun o : Open => W.d (.tuple (o.2.map enQ))) [])]) := by simp [bLen]
    simp only [List.map_nil] at key e2
    have e3 : opGt (.d (.int 0)) (.d (.int 0)) (h ++ [.lst []]) = some (.bool false, h ++ [.lst []]) := by simp
    simp only [fn, List.length_cons, List.length_nil, if_true, List.map_cons, List.map_nil, List.replicate, List.cons_append, List.nil_append, Nat.reduceAdd, Nat.reduceSub, Nat.reduceLeDiff, sizeMax, sCons_eq, sRet_eq, sRetN_eq, sIf_eq, sAsg_eq, sExpr_eq, sNil_eq, put_nm, List.set_cons_succ, List.set_cons_zero, eVar_eq, eCon_eq, eOp1_eq, eOp2_eq, eOpN_eq, eCall_eq, eIf_eq, eAnd_eq, eNot_eq, eTup_eq, eLst_eq, aCons_eq, aNil_eq, tVal_eq, tAnd_eq, tOr_eq, tNot_eq, tYes_eq, onB_some, asBool_bool, List.getElem?_cons_succ, List.getElem?_cons_zero, R.bind_ok, R.of_some, R.then_ok, Out.seq_nx, Out.seq_rt, outR_rt, outR_nx, tidy_ok, cmp_int, eq_int, add_int, sub_int, gc_d, Bool.not_true, Bool.not_false, Bool.false_eq_true, if_false, m_open_of, b_open_of, key, e2, e3, List.head?_nil, gc_d_app]
  | cons o os =>
    rw [hf] at key
    have e2 : bLen [.ref h.length] (h ++ [.lst (List.map (fun o : Open => W.d (.tuple (o.2.map enQ))) (o :: os))]) = some (.int ((os.length : Nat) + 1), h ++ [.lst (List.map (fun o : Open => W.d (.tuple (o.2.map enQ))) (o :: os))]) := by simp [bLen]
    have e3 : opIx (.ref h.length) (.d (.int 0)) (h ++ [.lst (List.map (fun o : Open => W.d (.tuple (o.2.map enQ))) (o :: os))]) = some (.d (.tuple (o.2.map enQ)), h ++ [.lst (List.map (fun o : Open => W.d (.tuple (o.2.map enQ))) (o :: os))]) := opIx_lst (n := 0) (ws := (o :: os).map fun o : Open => W.d (.tuple (o.2.map enQ))) (by simp) rfl
    have e4 : (0 : Int) < (os.length : Nat) + 1 := by omega
    simp only [List.map_cons] at key e2 e3
    simp only [fn, List.length_cons, List.length_nil, if_true, List.map_cons, List.map_nil, List.replicate, List.cons_append, List.nil_append, Nat.reduceAdd, Nat.reduceSub, Nat.reduceLeDiff, sizeMax, sCons_eq, sRet_eq, sRetN_eq, sIf_eq, sAsg_eq, sExpr_eq, sNil_eq, put_nm, List.set_cons_succ, List.set_cons_zero, eVar_eq, eCon_eq, eOp1_eq, eOp2_eq, eOpN_eq, eCall_eq, eIf_eq, eAnd_eq, eNot_eq, eTup_eq, eLst_eq, aCons_eq, aNil_eq, tVal_eq, tAnd_eq, tOr_eq, tNot_eq, tYes_eq, onB_some, asBool_bool, List.getElem?_cons_succ, List.getElem?_cons_zero, R.bind_ok, R.of_some, R.then_ok, Out.seq_nx, Out.seq_rt, outR_rt, outR_nx, tidy_ok, cmp_int, eq_int, add_int, sub_int, gc_d, Bool.not_true, Bool.not_false, Bool.false_eq_true, if_false, m_open_of, b_open_of, key, e2, e4, decide_true, e3, List.head?_cons, gc_d_app]
/-! ### names -/
theorem isname_ok {t : String} (ht : tyW h w = some t) (hs : ∀ s, w = .d (.str s) → s.length ≤ 1000) : ∃ b, m_is_name [w] h = .ok (.bool b) h ∧ (b = true → ∃ s, w = .d (.str s)) ∧ ∀ s, w = .d (.str s) → nameB s = true → b = true := by
  have e1 := isI_ok (T := "str") ht
  by_cases z : t = "str"
  · subst z
    obtain ⟨s, rfl⟩ := str_val ht
    have hl := hs s rfl
    have e2 : bLen [.d (.str s)] h = some (.int (s.length : Nat), h) := by
      simp only [bLen, sizeMax]
      rw [if_pos (by omega)]
    by_cases c : 1 ≤ s.length ∧ s.length ≤ 8
    · have key := eComp_pure (i := iText (eVar 0)) (vs := [1]) (g := .nm 1) (t := tVal (eOp2 opNotIn (eVar 1) (eCon (.str "abcdefghijklmnopqrstuvwxyz")))) (e := eVar 1) (L := [some (.d (.str s)), none]) (h0 := h) (h := h) (enc := fun c : Nat => W.str ⟨#[c]⟩) (s := .tp (signs s)) (fun c => !decide (c ∈ (Str.ofString "abcdefghijklmnopqrstuvwxyz").cps.toList)) (fun c => W.str ⟨#[c]⟩) s.cps.toList
        (by simp [iText]) rfl (fun _ => trivial) (by
          have : s.cps.toList.length = s.length := by rw [Array.length_toList]; rfl
          simp only [sizeMax]; omega) (fun c hc => ⟨[some (.d (.str s)), some (W.str ⟨#[c]⟩)], rfl, fun acc => by
          have : opInB true (W.str ⟨#[c]⟩) (.d (.str "abcdefghijklmnopqrstuvwxyz")) (h ++ [.lst acc]) = some (.bool (!decide (c ∈ (Str.ofString "abcdefghijklmnopqrstuvwxyz").cps.toList)), h ++ [.lst acc]) := by
            simp only [opInB]
            rw [if_pos (by rfl)]
            simp
          exact ⟨by simp only [fn, List.length_cons, List.length_nil, if_true, List.map_cons, List.map_nil, List.replicate, List.cons_append, List.nil_append, Nat.reduceAdd, Nat.reduceSub, Nat.reduceLeDiff, sizeMax, sCons_eq, sRet_eq, sRetN_eq, sIf_eq, sAsg_eq, sExpr_eq, sNil_eq, put_nm, List.set_cons_succ, List.set_cons_zero, eVar_eq, eCon_eq, eOp1_eq, eOp2_eq, eOpN_eq, eCall_eq, eIf_eq, eAnd_eq, eNot_eq, eTup_eq, eLst_eq, aCons_eq, aNil_eq, tVal_eq, tAnd_eq, tOr_eq, tNot_eq, tYes_eq, onB_some, asBool_bool, List.getElem?_cons_succ, List.getElem?_cons_zero, R.bind_ok, R.of_some, R.then_ok, Out.seq_nx, Out.seq_rt, outR_rt, outR_nx, tidy_ok, cmp_int, eq_int, add_int, sub_int, gc_d, Bool.not_true, Bool.not_false, Bool.false_eq_true, if_false, show opNotIn = opInB true from rfl, this], fun _ => by simp only [fn, List.length_cons, List.length_nil, if_true, List.map_cons, List.map_nil, List.replicate, List.cons_append, List.nil_append, Nat.reduceAdd, Nat.reduceSub, Nat.reduceLeDiff, sizeMax, sCons_eq, sRet_eq, sRetN_eq, sIf_eq, sAsg_eq, sExpr_eq, sNil_eq, put_nm, List.set_cons_succ, List.set_cons_zero, eVar_eq, eCon_eq, eOp1_eq, eOp2_eq, eOpN_eq, eCall_eq, eIf_eq, eAnd_eq, eNot_eq, eTup_eq, eLst_eq, aCons_eq, aNil_eq, tVal_eq, tAnd_eq, tOr_eq, tNot_eq, tYes_eq, onB_some, asBool_bool, List.getElem?_cons_succ, List.getElem?_cons_zero, R.bind_ok, R.of_some, R.then_ok, Out.seq_nx, Out.seq_rt, outR_rt, outR_nx, tidy_ok, cmp_int, eq_int, add_int, sub_int, gc_d, Bool.not_true, Bool.not_false, Bool.false_eq_true, if_false, sNil_eq]⟩⟩)
      have eg : eGc (eOpN bLen (aCons (eComp (iText (eVar 0)) [1] (.nm 1) (tVal (eOp2 opNotIn (eVar 1) (eCon (.str "abcdefghijklmnopqrstuvwxyz")))) (eVar 1)) aNil)) [some (.d (.str s)), none] h = .ok (.int ((s.cps.toList.filter fun c => !decide (c ∈ (Str.ofString "abcdefghijklmnopqrstuvwxyz").cps.toList)).length : Nat)) h := by
        refine eGc_ok (h' := h ++ [.lst ((s.cps.toList.filter fun c => !decide (c ∈ (Str.ofString "abcdefghijklmnopqrstuvwxyz").cps.toList)).map fun c => W.str ⟨#[c]⟩)]) ?_ (by simp) List.take_left
        rw [eOpN_eq, aCons_eq, key]
        simp only [R.bind_ok, aNil_eq, bLen, List.getElem?_append_right (Nat.le_refl _), Nat.sub_self, List.getElem?_cons_zero, R.of_some, List.length_map]
      have c1 : (1 : Int) ≤ (s.length : Nat) := by omega
      have c2 : ((s.length : Nat) : Int) ≤ 8 := by omega
      refine ⟨((((s.cps.toList.filter fun c => !decide (c ∈ (Str.ofString "abcdefghijklmnopqrstuvwxyz").cps.toList)).length : Nat) : Int) == 0), ?_, fun _ => ⟨s, rfl⟩, fun s' e hn => ?_⟩
      · have e1' : isI "str" (.d (.str s)) h = some (.bool true, h) := e1
        simp only [fn, List.length_cons, List.length_nil, if_true, List.map_cons, List.map_nil, List.replicate, List.cons_append, List.nil_append, Nat.reduceAdd, Nat.reduceSub, Nat.reduceLeDiff, sizeMax, sCons_eq, sRet_eq, sRetN_eq, sIf_eq, sAsg_eq, sExpr_eq, sNil_eq, put_nm, List.set_cons_succ, List.set_cons_zero, eVar_eq, eCon_eq, eOp1_eq, eOp2_eq, eOpN_eq, eCall_eq, eIf_eq, eAnd_eq, eNot_eq, eTup_eq, eLst_eq, aCons_eq, aNil_eq, tVal_eq, tAnd_eq, tOr_eq, tNot_eq, tYes_eq, onB_some, asBool_bool, List.getElem?_cons_succ, List.getElem?_cons_zero, R.bind_ok, R.of_some, R.then_ok, Out.seq_nx, Out.seq_rt, outR_rt, outR_nx, tidy_ok, cmp_int, eq_int, add_int, sub_int, gc_d, Bool.not_true, Bool.not_false, Bool.false_eq_true, if_false, m_is_name, b_is_name, e1', eChain_eq, e2, c1, c2, decide_true, eg, Bool.false_bne]
      · cases e
        have hlet : (s.cps.toList.filter fun c => !decide (c ∈ (Str.ofString "abcdefghijklmnopqrstuvwxyz").cps.toList)) = [] := by
          rw [List.filter_eq_nil_iff]
          intro c hc
          simp only [nameB, Bool.and_eq_true, lettersB] at hn
          have h1 := List.all_eq_true.mp hn.2.2 c hc
          simp only [Bool.and_eq_true, decide_eq_true_eq] at h1
          have key : ((List.range 26).all fun i => decide (97 + i ∈ (Str.ofString "abcdefghijklmnopqrstuvwxyz").cps.toList)) = true := by decide +kernel
          have h2 := List.all_eq_true.mp key (c - 97) (List.mem_range.mpr (by omega))
          have e : 97 + (c - 97) = c := by omega
          rw [e] at h2
          rw [h2]; decide
        rw [hlet]; rfl
    · refine ⟨false, ?_, by simp, fun s' e hn => ?_⟩
      · have e1' : isI "str" (.d (.str s)) h = some (.bool true, h) := e1
        by_cases c1 : 1 ≤ s.length
        · have c1' : (1 : Int) ≤ (s.length : Nat) := by omega
          have c2 : ¬ ((s.length : Nat) : Int) ≤ 8 := by omega
          simp only [fn, List.length_cons, List.length_nil, if_true, List.map_cons, List.map_nil, List.replicate, List.cons_append, List.nil_append, Nat.reduceAdd, Nat.reduceSub, Nat.reduceLeDiff, sizeMax, sCons_eq, sRet_eq, sRetN_eq, sIf_eq, sAsg_eq, sExpr_eq, sNil_eq, put_nm, List.set_cons_succ, List.set_cons_zero, eVar_eq, eCon_eq, eOp1_eq, eOp2_eq, eOpN_eq, eCall_eq, eIf_eq, eAnd_eq, eNot_eq, eTup_eq, eLst_eq, aCons_eq, aNil_eq, tVal_eq, tAnd_eq, tOr_eq, tNot_eq, tYes_eq, onB_some, asBool_bool, List.getElem?_cons_succ, List.getElem?_cons_zero, R.bind_ok, R.of_some, R.then_ok, Out.seq_nx, Out.seq_rt, outR_rt, outR_nx, tidy_ok, cmp_int, eq_int, add_int, sub_int, gc_d, Bool.not_true, Bool.not_false, Bool.false_eq_true, if_false, m_is_name, b_is_name, e1', eChain_eq, e2, c1', c2, decide_true, decide_false]
        · have c1' : ¬ (1 : Int) ≤ (s.length : Nat) := by omega
          simp only [fn, List.length_cons, List.length_nil, if_true, List.map_cons, List.map_nil, List.replicate, List.cons_append, List.nil_append, Nat.reduceAdd, Nat.reduceSub, Nat.reduceLeDiff, sizeMax, sCons_eq, sRet_eq, sRetN_eq, sIf_eq, sAsg_eq, sExpr_eq, sNil_eq, put_nm, List.set_cons_succ, List.set_cons_zero, eVar_eq, eCon_eq, eOp1_eq, eOp2_eq, eOpN_eq, eCall_eq, eIf_eq, eAnd_eq, eNot_eq, eTup_eq, eLst_eq, aCons_eq, aNil_eq, tVal_eq, tAnd_eq, tOr_eq, tNot_eq, tYes_eq, onB_some, asBool_bool, List.getElem?_cons_succ, List.getElem?_cons_zero, R.bind_ok, R.of_some, R.then_ok, Out.seq_nx, Out.seq_rt, outR_rt, outR_nx, tidy_ok, cmp_int, eq_int, add_int, sub_int, gc_d, Bool.not_true, Bool.not_false, Bool.false_eq_true, if_false, m_is_name, b_is_name, e1', eChain_eq, e2, c1', decide_false]
      · cases e
        simp only [nameB, Bool.and_eq_true, decide_eq_true_eq] at hn
        exact absurd ⟨hn.1, hn.2.1⟩ c
  · refine ⟨false, ?_, by simp, fun s e => ?_⟩
    · have e1' : isI "str" w h = some (.bool false, h) := by rw [e1]; simp [z]
      simp only [fn, List.length_cons, List.length_nil, if_true, List.map_cons, List.map_nil, List.replicate, List.cons_append, List.nil_append, Nat.reduceAdd, Nat.reduceSub, Nat.reduceLeDiff, sizeMax, sCons_eq, sRet_eq, sRetN_eq, sIf_eq, sAsg_eq, sExpr_eq, sNil_eq, put_nm, List.set_cons_succ, List.set_cons_zero, eVar_eq, eCon_eq, eOp1_eq, eOp2_eq, eOpN_eq, eCall_eq, eIf_eq, eAnd_eq, eNot_eq, eTup_eq, eLst_eq, aCons_eq, aNil_eq, tVal_eq, tAnd_eq, tOr_eq, tNot_eq, tYes_eq, onB_some, asBool_bool, List.getElem?_cons_succ, List.getElem?_cons_zero, R.bind_ok, R.of_some, R.then_ok, Out.seq_nx, Out.seq_rt, outR_rt, outR_nx, tidy_ok, cmp_int, eq_int, add_int, sub_int, gc_d, Bool.not_true, Bool.not_false, Bool.false_eq_true, if_false, m_is_name, b_is_name, e1']
    · subst e; simp [tyW] at ht; exact absurd ht.symm z
end
end Sp
end

section
/-! St21: the law's own measure of what is kept. -/
namespace Sp
open Mi Sem
open PySem (PyData Str)
section
variable {h : Hh} {w u : W} {hs : List Head} {opn : List Open} {fs : List PyData}
/-- the names of the open ones -/
theorem onames_ok {L : Loc} {i j : Nat} (hl : opn.length ≤ 8) (hL : L[i]? = some (some (.d (enProg fs opn)))) (hj : j < L.length) : eComp (iSeq (eOp2 opIx (eVar i) (eCon (.int 2)))) [j] (.nm j) tYes (eOp2 opIx (eVar j) (eCon (.int 0))) L h = .ok (.ref h.length) (h ++ [.lst ((opn.map (·.1)).map W.str)]) := by
  have hi : iSeq (eOp2 opIx (eVar i) (eCon (.int 2))) L h = .ok (.tp (opn.map fun o => W.d (enO o))) h := by
    rw [iSeq_eq]; simp only [eOp2_eq, eVar_eq, hL, R.bind_ok, eCon_eq, p2, R.of_some, W.items_d, List.map_map]; rfl
  have key := eComp_pure (i := iSeq (eOp2 opIx (eVar i) (eCon (.int 2)))) (vs := [j]) (g := .nm j) (t := tYes) (e := eOp2 opIx (eVar j) (eCon (.int 0))) (L := L) (h0 := h) (h := h) (enc := fun o => W.d (enO o)) (s := .tp (opn.map fun o => W.d (enO o))) (fun _ => true) (fun o => W.str o.1) opn
    hi rfl (fun _ => trivial) (by simp only [sizeMax]; omega) (fun f hf => ⟨(wipeL L [j]).set j (some (.d (enO f))), rfl, fun acc => ⟨rfl, fun _ => by
      have hg : ((wipeL L [j]).set j (some (W.d (enO f))))[j]? = some (some (.d (enO f))) := by rw [List.getElem?_set_self]; simp [wipeL, hj]
      have x0 : opIx (.d (enO f)) (.d (.int 0)) (h ++ [.lst acc]) = some (W.str f.1, h ++ [.lst acc]) := opIx_tup (n := 0) rfl
      simp only [eOp2_eq, eVar_eq, hg, R.bind_ok, eCon_eq, x0, R.of_some]⟩⟩)
  rw [key]
  have : (opn.filter fun _ => true).map (fun o => W.str o.1) = (opn.map (·.1)).map W.str := by
    rw [List.map_map, List.filter_eq_self.mpr (by simp)]; rfl
  rw [this]
theorem isI_tup {t : String} (e : tyW h w = some t) (ne : t ≠ "tuple") : isI "tuple" w h = some (.bool false, h) := by
  rw [isI_ok e]; simp [ne]
theorem ix_intsL {zs : List Int} {i : Int} {a : Nat} {M : Hh} (ha : M[a]? = some (.lst (zs.map fun z => W.d (.int z)))) (h0 : 0 ≤ i) (h1 : i < zs.length) : opIx (.ref a) (.d (.int i)) M = some (.int (zs.getD i.toNat 0), M) := by
  obtain ⟨j, rfl⟩ : ∃ j : Nat, i = j := ⟨i.toNat, by omega⟩
  have : zs[j]? = some (zs.getD j 0) := by
    rw [List.getD_eq_getElem?_getD]
    rw [List.getElem?_eq_getElem (by omega)]
    rfl
  rw [Int.toNat_natCast]
  exact opIx_lst (n := j) ha (by rw [List.getElem?_map, this]; rfl)
/-- the loop that measures -/
theorem meas_ok {ws : List W} {x0 x1 x3 x4 : Option W} (hl : ws.length ≤ 1000) (hf : ∀ u ∈ ws, ∃ k, fitB h k u = true) :
    ∃ y3 y4, forL (Src.tp ws).ok (.nm 3) l0__law_keeps ws [x0, x1, some (.ref h.length), x3, x4, none, none, none, none, none] (h ++ [.lst [W.int 0]]) = .nx [x0, x1, some (.ref h.length), y3, y4, none, none, none, none, none] (h ++ [.lst ((szs ws).map fun z => W.d (.int z))]) := by
  obtain ⟨L2, h2, e2, y3, y4, rfl, rfl⟩ := forL_all (ok := (Src.tp ws).ok) (g := .nm 3) (body := l0__law_keeps) (enc := fun u => u) (xs := ws)
    (fun pre L h' => ∃ y3 y4, L = [x0, x1, some (.ref h.length), y3, y4, none, none, none, none, none] ∧ h' = h ++ [.lst ((szs pre).map fun z => W.d (.int z))])
    (fun _ _ _ _ => trivial)
    (fun pre u post L h' e ⟨y3, y4, eL, eh⟩ => by
      subst eL eh
      have hu : u ∈ ws := by rw [e]; simp
      have hpl : pre.length ≤ 1000 := by have := congrArg List.length e; simp at this; omega
      refine ⟨[x0, x1, some (.ref h.length), some u, y4, none, none, none, none, none], rfl, ?_⟩
      have hsz : ((szs (pre ++ [u])).map fun z => W.d (.int z)) = ((szs pre).map fun z => W.d (.int z)) ++ [W.int (sz u)] := by simp [szs]
      have hset : (h ++ [O.lst ((szs pre).map fun z => W.d (.int z))]).set h.length (.lst (((szs pre).map fun z => W.d (.int z)) ++ [W.int (sz u)])) = h ++ [.lst (((szs pre).map fun z => W.d (.int z)) ++ [W.int (sz u)])] := by simp
      have hap := app_lst2 (h := h ++ [O.lst ((szs pre).map fun z => W.d (.int z))]) (p := h.length) (ws := (szs pre).map fun z => W.d (.int z)) (x := W.int (sz u)) (by simp) (by simp [szs]; omega)
      rw [hset] at hap
      have hisl : isLst (h ++ [O.lst ((szs pre).map fun z => W.d (.int z))]) (.ref h.length) = true := by simp [isLst]
      obtain ⟨k, hk⟩ := hf u hu
      rw [hsz]
      rcases fit_sz hk with ⟨i, rfl, hs⟩ | ⟨vs, hv, hs, ht⟩
      · have e1 : isI "tuple" (.d (.int i)) (h ++ [O.lst ((szs pre).map fun z => W.d (.int z))]) = some (.bool false, h ++ [O.lst ((szs pre).map fun z => W.d (.int z))]) := isI_tup (t := "int") rfl (by decide)
        rw [hs] at hap ⊢
        refine ⟨_, _, .inl ?_, some (.d (.int i)), some (.d (.int i)), rfl, rfl⟩
        simp only [fn, List.length_cons, List.length_nil, if_true, List.map_cons, List.map_nil, List.replicate, List.cons_append, List.nil_append, Nat.reduceAdd, Nat.reduceSub, Nat.reduceLeDiff, sizeMax, sCons_eq, sRet_eq, sRetN_eq, sIf_eq, sAsg_eq, sExpr_eq, sNil_eq, put_nm, List.set_cons_succ, List.set_cons_zero, eVar_eq, eCon_eq, eOp1_eq, eOp2_eq, eOpN_eq, eCall_eq, eIf_eq, eAnd_eq, eNot_eq, eTup_eq, eLst_eq, aCons_eq, aNil_eq, tVal_eq, tAnd_eq, tOr_eq, tNot_eq, tYes_eq, onB_some, asBool_bool, List.getElem?_cons_succ, List.getElem?_cons_zero, R.bind_ok, R.of_some, R.then_ok, Out.seq_nx, Out.seq_rt, outR_rt, outR_nx, tidy_ok, cmp_int, eq_int, add_int, sub_int, gc_d, Bool.not_true, Bool.not_false, Bool.false_eq_true, if_false, l0__law_keeps, e1, eMetL_eq, hisl, hap]
      · have e1 : isI "tuple" u (h ++ [O.lst ((szs pre).map fun z => W.d (.int z))]) = some (.bool true, h ++ [O.lst ((szs pre).map fun z => W.d (.int z))]) := by rw [isI_ok (tyW_app ht)]; rfl
        have e2 := bLen_w (M := h ++ [O.lst ((szs pre).map fun z => W.d (.int z))]) hv
        rw [hs] at hap ⊢
        refine ⟨_, _, .inl ?_, some u, some (.int (vs.length : Nat)), rfl, rfl⟩
        simp only [fn, List.length_cons, List.length_nil, if_true, List.map_cons, List.map_nil, List.replicate, List.cons_append, List.nil_append, Nat.reduceAdd, Nat.reduceSub, Nat.reduceLeDiff, sizeMax, sCons_eq, sRet_eq, sRetN_eq, sIf_eq, sAsg_eq, sExpr_eq, sNil_eq, put_nm, List.set_cons_succ, List.set_cons_zero, eVar_eq, eCon_eq, eOp1_eq, eOp2_eq, eOpN_eq, eCall_eq, eIf_eq, eAnd_eq, eNot_eq, eTup_eq, eLst_eq, aCons_eq, aNil_eq, tVal_eq, tAnd_eq, tOr_eq, tNot_eq, tYes_eq, onB_some, asBool_bool, List.getElem?_cons_succ, List.getElem?_cons_zero, R.bind_ok, R.of_some, R.then_ok, Out.seq_nx, Out.seq_rt, outR_rt, outR_nx, tidy_ok, cmp_int, eq_int, add_int, sub_int, gc_d, Bool.not_true, Bool.not_false, Bool.false_eq_true, if_false, l0__law_keeps, e1, e2, eMetL_eq, hisl, hap])
    (L := [x0, x1, some (.ref h.length), x3, x4, none, none, none, none, none]) (h := h ++ [.lst [W.int 0]]) ⟨_, _, rfl, rfl⟩
  refine ⟨y3, y4, ?_⟩
  rw [List.map_id'] at e2
  exact e2
theorem keeps_ok {ws : List W} {a c d : W} {nm : Str} {o : Open} (hw : w.items = some [a, .d (.str nm), c, d]) (hc : c.items = some ws) (hl : ws.length ≤ 1000) (hf : ∀ u ∈ ws, ∃ k, fitB h k u = true) (hn : nm ∈ opn.map (·.1)) (ho : opn[(opn.map (·.1)).idxOf nm]? = some o) (hp : PromsOk ((ws.length : Int) + 1) o.2) (htl : o.2.length ≤ 2) (hol : opn.length ≤ 8) :
    m__law_keeps [.d (enProg fs opn), w] h = .ok (.bool (o.2.all (keepB (szs ws)))) h := by
  have hlen : ((szs ws).length : Int) = (ws.length : Int) + 1 := by simp [szs]
  obtain ⟨y3, y4, eloop⟩ := meas_ok (h := h) (x0 := some (.d (enProg fs opn))) (x1 := some w) (x3 := none) (x4 := none) hl hf
  obtain ⟨h1, eh1⟩ : ∃ h1 : Hh, h1 = h ++ [.lst ((szs ws).map fun z => W.d (.int z))] := ⟨_, rfl⟩
  rw [← eh1] at eloop
  have en := onames_ok (opn := opn) (fs := fs) (h := h1) (L := [some (.d (enProg fs opn)), some w, some (.ref h.length), y3, y4, none, none, none, none, none]) (i := 0) (j := 6) hol rfl (by simp)
  obtain ⟨h2, eh2⟩ : ∃ h2 : Hh, h2 = h1 ++ [.lst ((opn.map (·.1)).map W.str)] := ⟨_, rfl⟩
  rw [← eh2] at en
  have hix := idx_strs (n := nm) (ns := opn.map (·.1)) (a := h1.length) (M := h2) (by simp [eh2]) hn
  have hisl : isLst h2 (.ref h1.length) = true := by simp [isLst, eh2]
  have ex1 : opIx w (.d (.int 1)) h2 = some (.d (.str nm), h2) := opIx_w (n := 1) (M := h2) hw rfl
  have ex2 : ∀ M, opIx w (.d (.int 2)) M = some (c, M) := fun M => opIx_w (n := 2) (M := M) hw rfl
  have exo : opIx (.d (.tuple (opn.map enO))) (.d (.int (((opn.map (·.1)).idxOf nm : Nat) : Int))) h2 = some (.d (enO o), h2) := opIx_tup (by rw [List.getElem?_map, ho]; rfl)
  have exo1 : opIx (.d (enO o)) (.d (.int 1)) h2 = some (.d (.tuple (o.2.map enQ)), h2) := opIx_tup (n := 1) rfl
  have hi : iSeq (eOp2 opIx (eOp2 opIx (eOp2 opIx (eVar 0) (eCon (.int 2))) (eMetL mIndex (eVar 5) (aCons (eOp2 opIx (eVar 1) (eCon (.int 1))) aNil))) (eCon (.int 1))) [some (.d (enProg fs opn)), some w, some (.ref h.length), y3, y4, some (.ref h1.length), none, none, none, none] h2 = .ok (.tp (o.2.map fun t => W.d (enQ t))) h2 := by
    rw [iSeq_eq]
    simp only [fn, List.length_cons, List.length_nil, if_true, List.map_cons, List.map_nil, List.replicate, List.cons_append, List.nil_append, Nat.reduceAdd, Nat.reduceSub, Nat.reduceLeDiff, sizeMax, sCons_eq, sRet_eq, sRetN_eq, sIf_eq, sAsg_eq, sExpr_eq, sNil_eq, put_nm, List.set_cons_succ, List.set_cons_zero, eVar_eq, eCon_eq, eOp1_eq, eOp2_eq, eOpN_eq, eCall_eq, eIf_eq, eAnd_eq, eNot_eq, eTup_eq, eLst_eq, aCons_eq, aNil_eq, tVal_eq, tAnd_eq, tOr_eq, tNot_eq, tYes_eq, onB_some, asBool_bool, List.getElem?_cons_succ, List.getElem?_cons_zero, R.bind_ok, R.of_some, R.then_ok, Out.seq_nx, Out.seq_rt, outR_rt, outR_nx, tidy_ok, cmp_int, eq_int, add_int, sub_int, gc_d, Bool.not_true, Bool.not_false, Bool.false_eq_true, if_false, p2, eMetL_eq, hisl, ex1, hix, exo, exo1, W.items_d, List.map_map]
    rfl
  have key := eComp_pure (i := iSeq (eOp2 opIx (eOp2 opIx (eOp2 opIx (eVar 0) (eCon (.int 2))) (eMetL mIndex (eVar 5) (aCons (eOp2 opIx (eVar 1) (eCon (.int 1))) aNil))) (eCon (.int 1)))) (vs := [7, 8, 9]) (g := .tp [7, 8, 9]) (t := tVal (eOp2 opGt (eOp2 opIx (eVar 2) (eVar 7)) (eOp2 opAdd (eOp2 opIx (eVar 2) (eVar 8)) (eVar 9)))) (e := eCon (.int 1))
    (L := [some (.d (enProg fs opn)), some w, some (.ref h.length), y3, y4, some (.ref h1.length), none, none, none, none]) (h0 := h2) (h := h2) (enc := fun t => W.d (enQ t)) (s := .tp (o.2.map fun t => W.d (enQ t))) (fun t => !keepB (szs ws) t) (fun _ => W.int 1) o.2
    hi rfl (fun _ => trivial) (by simp only [sizeMax]; omega) (fun t ht => ⟨[some (.d (enProg fs opn)), some w, some (.ref h.length), y3, y4, some (.ref h1.length), none, some (.int t.1), some (.int t.2.1), some (.int t.2.2)], rfl, fun acc => by
      obtain ⟨⟨a0, a1⟩, ⟨c0, c1⟩, _⟩ := hp t ht
      have hat : (h2 ++ [O.lst acc])[h.length]? = some (.lst ((szs ws).map fun z => W.d (.int z))) := by simp [eh2, eh1]
      have e1 := ix_intsL hat a0 (by omega)
      have e2 := ix_intsL hat c0 (by omega)
      refine ⟨?_, fun _ => by simp⟩
      simp only [fn, List.length_cons, List.length_nil, if_true, List.map_cons, List.map_nil, List.replicate, List.cons_append, List.nil_append, Nat.reduceAdd, Nat.reduceSub, Nat.reduceLeDiff, sizeMax, sCons_eq, sRet_eq, sRetN_eq, sIf_eq, sAsg_eq, sExpr_eq, sNil_eq, put_nm, List.set_cons_succ, List.set_cons_zero, eVar_eq, eCon_eq, eOp1_eq, eOp2_eq, eOpN_eq, eCall_eq, eIf_eq, eAnd_eq, eNot_eq, eTup_eq, eLst_eq, aCons_eq, aNil_eq, tVal_eq, tAnd_eq, tOr_eq, tNot_eq, tYes_eq, onB_some, asBool_bool, List.getElem?_cons_succ, List.getElem?_cons_zero, R.bind_ok, R.of_some, R.then_ok, Out.seq_nx, Out.seq_rt, outR_rt, outR_nx, tidy_ok, cmp_int, eq_int, add_int, sub_int, gc_d, Bool.not_true, Bool.not_false, Bool.false_eq_true, if_false, e1, e2, keepB, Bool.not_not]⟩)
  have eg : eGc (eOp2 opEq (eComp (iSeq (eOp2 opIx (eOp2 opIx (eOp2 opIx (eVar 0) (eCon (.int 2))) (eMetL mIndex (eVar 5) (aCons (eOp2 opIx (eVar 1) (eCon (.int 1))) aNil))) (eCon (.int 1)))) [7, 8, 9] (.tp [7, 8, 9]) (tVal (eOp2 opGt (eOp2 opIx (eVar 2) (eVar 7)) (eOp2 opAdd (eOp2 opIx (eVar 2) (eVar 8)) (eVar 9)))) (eCon (.int 1))) (eLst aNil))
      [some (.d (enProg fs opn)), some w, some (.ref h.length), y3, y4, some (.ref h1.length), none, none, none, none] h2 = .ok (.bool (o.2.all (keepB (szs ws)))) h2 := by
    refine eGc_ok (h' := h2 ++ [.lst ((o.2.filter fun t => !keepB (szs ws) t).map fun _ => W.int 1)] ++ [.lst []]) ?_ (by simp) (by rw [List.append_assoc]; exact List.take_left)
    rw [eOp2_eq, key]
    have := eqnil_d (neg := false) (a := h2.length) (b := (h2 ++ [O.lst ((o.2.filter fun t => !keepB (szs ws) t).map fun _ => W.int 1)]).length) (xs := (o.2.filter fun t => !keepB (szs ws) t).map fun _ => PyData.int 1) (M := h2 ++ [.lst ((o.2.filter fun t => !keepB (szs ws) t).map fun _ => W.int 1)] ++ [.lst []]) (by simp) (by simp)
    simp only [R.bind_ok, eLst_eq, aNil_eq, List.length_nil, Nat.zero_le, if_true]
    rw [show opEq = opEqB false from rfl, this]
    have : (List.map (fun _ => PyData.int 1) (o.2.filter fun t => !keepB (szs ws) t)).isEmpty = o.2.all (keepB (szs ws)) := by
      rw [List.isEmpty_map]
      clear key hi this eloop hp htl exo exo1 ho
      induction o.2 with
      | nil => rfl
      | cons t ts ih =>
        cases hk : keepB (szs ws) t
        · simp [List.filter_cons, hk]
        · simpa [List.filter_cons, hk] using ih
    rw [this, Bool.false_bne]; rfl
  have hsq : iSeq (eOp2 opIx (eVar 1) (eCon (.int 2))) [some (.d (enProg fs opn)), some w, some (.ref h.length), none, none, none, none, none, none, none] (h ++ [.lst [W.int 0]]) = .ok (.tp ws) (h ++ [.lst [W.int 0]]) := by
    have := seq_items (L := [some c]) (i := 0) (h := h ++ [.lst [W.int 0]]) rfl hc
    rw [iSeq_eq] at this ⊢
    simp only [eVar_eq, List.getElem?_cons_zero, R.bind_ok] at this
    simp only [fn, List.length_cons, List.length_nil, if_true, List.map_cons, List.map_nil, List.replicate, List.cons_append, List.nil_append, Nat.reduceAdd, Nat.reduceSub, Nat.reduceLeDiff, sizeMax, sCons_eq, sRet_eq, sRetN_eq, sIf_eq, sAsg_eq, sExpr_eq, sNil_eq, put_nm, List.set_cons_succ, List.set_cons_zero, eVar_eq, eCon_eq, eOp1_eq, eOp2_eq, eOpN_eq, eCall_eq, eIf_eq, eAnd_eq, eNot_eq, eTup_eq, eLst_eq, aCons_eq, aNil_eq, tVal_eq, tAnd_eq, tOr_eq, tNot_eq, tYes_eq, onB_some, asBool_bool, List.getElem?_cons_succ, List.getElem?_cons_zero, R.bind_ok, R.of_some, R.then_ok, Out.seq_nx, Out.seq_rt, outR_rt, outR_nx, tidy_ok, cmp_int, eq_int, add_int, sub_int, gc_d, Bool.not_true, Bool.not_false, Bool.false_eq_true, if_false, ex2]
    exact this
  have gg : gc h (.d (.bool (o.2.all (keepB (szs ws))))) h2 = h := by
    have := gc_d_app h [.lst ((szs ws).map fun z => W.d (.int z)), .lst ((opn.map (·.1)).map W.str)] (.bool (o.2.all (keepB (szs ws))))
    rw [eh2, eh1, List.append_assoc]; exact this
  simp only [fn, List.length_cons, List.length_nil, if_true, List.map_cons, List.map_nil, List.replicate, List.cons_append, List.nil_append, Nat.reduceAdd, Nat.reduceSub, Nat.reduceLeDiff, sizeMax, sCons_eq, sRet_eq, sRetN_eq, sIf_eq, sAsg_eq, sExpr_eq, sNil_eq, put_nm, List.set_cons_succ, List.set_cons_zero, eVar_eq, eCon_eq, eOp1_eq, eOp2_eq, eOpN_eq, eCall_eq, eIf_eq, eAnd_eq, eNot_eq, eTup_eq, eLst_eq, aCons_eq, aNil_eq, tVal_eq, tAnd_eq, tOr_eq, tNot_eq, tYes_eq, onB_some, asBool_bool, List.getElem?_cons_succ, List.getElem?_cons_zero, R.bind_ok, R.of_some, R.then_ok, Out.seq_nx, Out.seq_rt, outR_rt, outR_nx, tidy_ok, cmp_int, eq_int, add_int, sub_int, gc_d, Bool.not_true, Bool.not_false, Bool.false_eq_true, if_false, m__law_keeps, b__law_keeps, sFor_eq, hsq, items_tp, eloop, en, eg, gg]
end
end Sp
end

section
/-! Su21: the verdict: the law's, the program's. -/
namespace Sp
open Mi Sem
open PySem (PyData Str)
section
variable {h : Hh} {w u : W} {hs : List Head} {opn : List Open} {fs : List PyData} {P : PyData}
@[simp] theorem eq_int_str (neg : Bool) (i : Int) (y : Str) (M : Hh) : opEqB neg (.d (.int i)) (.d (.str y)) M = some (.bool neg, M) := by
  have : PyData.eqv (.int i) (.str y) = false := by simp [PyData.eqv]
  simp [opEqB, PyData.depth, this, dataW, roomDeep]
/-- a thing that may be asked about -/
structure V0 (h : Hh) (w : W) : Prop where
  ty : Ty h w
  len : ∀ ws, w.items = some ws → ws.length ≤ 1000
  four : ∀ a b c d, w.items = some [a, b, c, d] → ((∃ s, a = .d (.str s)) ∨ ∃ i, a = .d (.int i)) ∧ (Ty h b ∧ ∀ s, b = .d (.str s) → s.length ≤ 1000) ∧ V2 h c ∧ V1 h d
/-- the loop of the law's verdict -/
theorem due_loop {ps : List (Str × Str)} {ws : List W} {a b c d : W} {x0 x2 y4 y5 : Option W} (hk : KindsOk ps) (hw : w.items = some [a, b, c, d]) (hi : c.items = some ws) (hne : ws.length = ps.length) (hu : ∀ u ∈ ws, V1 h u) :
    (fitsAll h ps ws = true ∧ ∃ z4 z5, forL (Src.rg 0 ps.length).ok (.nm 4) l0__law_due (rgItems 0 ps.length) [x0, some w, x2, some (.d (enPs ps)), y4, y5] h = .nx [x0, some w, x2, some (.d (enPs ps)), z4, z5] h) ∨
    (fitsAll h ps ws = false ∧ forL (Src.rg 0 ps.length).ok (.nm 4) l0__law_due (rgItems 0 ps.length) [x0, some w, x2, some (.d (enPs ps)), y4, y5] h = .rt (.int 2) h) := by
  have loop := forL_numR (ok := (Src.rg 0 ps.length).ok) (g := .nm 4) (body := l0__law_due) (n := ps.length)
    (fun i L h' => (∃ y z, L = [x0, some w, x2, some (.d (enPs ps)), y, z]) ∧ h' = h ∧ ∀ (j : Nat) (q : Str × Str) (u : W), j < i → ps[j]? = some q → ws[j]? = some u → fitB h q.2 u = true)
    (fun r h' => r = .int 2 ∧ h' = h ∧ fitsAll h ps ws = false) (fun _ _ _ _ => trivial)
    (fun i L h' hin ⟨⟨y, z, eL⟩, eh, hall⟩ => by
      subst eL eh
      refine ⟨[x0, some w, x2, some (.d (enPs ps)), some (.int (i : Int)), z], rfl, ?_⟩
      obtain ⟨q, hq⟩ : ∃ q, ps[i]? = some q := ⟨ps[i], by simp [hin]⟩
      obtain ⟨u, hu'⟩ : ∃ u, ws[i]? = some u := ⟨ws[i]'(by omega), by simp [hne, hin]⟩
      have vu := hu u (List.mem_of_getElem? hu')
      obtain ⟨tu, htu⟩ := vu.1
      have ei := whole_ok (h := h') htu
      have ea := row_ok vu
      have ex0 : opIx w (.d (.int 2)) h' = some (c, h') := opIx_w (n := 2) hw rfl
      have ex1 : opIx (.d (enPs ps)) (.d (.int (i : Int))) h' = some (.d (enP q), h') := opIx_tup (by simp [hq])
      have ex2 : opIx (.d (enP q)) (.d (.int 1)) h' = some (.d (.str q.2), h') := opIx_tup (n := 1) rfl
      have ex3 := opIx_w (M := h') hi hu'
      have hne2 : ¬ Str.ofString "array" = Str.ofString "int" := by decide +kernel
      have hqk := hk q (List.mem_of_getElem? hq)
      cases hf : fitB h' q.2 u with
      | true =>
        refine .inl ⟨[x0, some w, x2, some (.d (enPs ps)), some (.int (i : Int)), some (.bool true)], h', .inl ?_, ⟨_, _, rfl⟩, rfl, fun j q' u' hj e2 e3 => ?_⟩
        · unfold fitB at hf
          rcases hqk with hqk | hqk
          · rw [hqk] at ex2
            rw [if_pos hqk] at hf
            simp only [fn, List.length_cons, List.length_nil, if_true, List.map_cons, List.map_nil, List.replicate, List.cons_append, List.nil_append, Nat.reduceAdd, Nat.reduceSub, Nat.reduceLeDiff, sizeMax, sCons_eq, sRet_eq, sRetN_eq, sIf_eq, sAsg_eq, sExpr_eq, sNil_eq, put_nm, List.set_cons_succ, List.set_cons_zero, eVar_eq, eCon_eq, eOp1_eq, eOp2_eq, eOpN_eq, eCall_eq, eIf_eq, eAnd_eq, eNot_eq, eTup_eq, eLst_eq, aCons_eq, aNil_eq, tVal_eq, tAnd_eq, tOr_eq, tNot_eq, tYes_eq, onB_some, asBool_bool, List.getElem?_cons_succ, List.getElem?_cons_zero, R.bind_ok, R.of_some, R.then_ok, Out.seq_nx, Out.seq_rt, outR_rt, outR_nx, tidy_ok, cmp_int, eq_int, add_int, sub_int, gc_d, Bool.not_true, Bool.not_false, Bool.false_eq_true, if_false, l0__law_due, ex0, ex1, ex2, ex3, ei, ea, hf, eq_strs, decide_true, Bool.false_bne]
          · rw [hqk] at ex2
            rw [if_neg (by rw [hqk]; exact hne2)] at hf
            simp only [fn, List.length_cons, List.length_nil, if_true, List.map_cons, List.map_nil, List.replicate, List.cons_append, List.nil_append, Nat.reduceAdd, Nat.reduceSub, Nat.reduceLeDiff, sizeMax, sCons_eq, sRet_eq, sRetN_eq, sIf_eq, sAsg_eq, sExpr_eq, sNil_eq, put_nm, List.set_cons_succ, List.set_cons_zero, eVar_eq, eCon_eq, eOp1_eq, eOp2_eq, eOpN_eq, eCall_eq, eIf_eq, eAnd_eq, eNot_eq, eTup_eq, eLst_eq, aCons_eq, aNil_eq, tVal_eq, tAnd_eq, tOr_eq, tNot_eq, tYes_eq, onB_some, asBool_bool, List.getElem?_cons_succ, List.getElem?_cons_zero, R.bind_ok, R.of_some, R.then_ok, Out.seq_nx, Out.seq_rt, outR_rt, outR_nx, tidy_ok, cmp_int, eq_int, add_int, sub_int, gc_d, Bool.not_true, Bool.not_false, Bool.false_eq_true, if_false, l0__law_due, ex0, ex1, ex2, ex3, ei, ea, hf, eq_strs, hne2, decide_false, Bool.false_bne]
        · by_cases hji : j = i
          · subst hji
            rw [hq] at e2; rw [hu'] at e3
            cases e2; cases e3
            exact hf
          · exact hall j q' u' (by omega) e2 e3
      | false =>
        refine .inr ⟨.int 2, h', ?_, rfl, rfl, ?_⟩
        · unfold fitB at hf
          rcases hqk with hqk | hqk
          · rw [hqk] at ex2
            rw [if_pos hqk] at hf
            simp only [fn, List.length_cons, List.length_nil, if_true, List.map_cons, List.map_nil, List.replicate, List.cons_append, List.nil_append, Nat.reduceAdd, Nat.reduceSub, Nat.reduceLeDiff, sizeMax, sCons_eq, sRet_eq, sRetN_eq, sIf_eq, sAsg_eq, sExpr_eq, sNil_eq, put_nm, List.set_cons_succ, List.set_cons_zero, eVar_eq, eCon_eq, eOp1_eq, eOp2_eq, eOpN_eq, eCall_eq, eIf_eq, eAnd_eq, eNot_eq, eTup_eq, eLst_eq, aCons_eq, aNil_eq, tVal_eq, tAnd_eq, tOr_eq, tNot_eq, tYes_eq, onB_some, asBool_bool, List.getElem?_cons_succ, List.getElem?_cons_zero, R.bind_ok, R.of_some, R.then_ok, Out.seq_nx, Out.seq_rt, outR_rt, outR_nx, tidy_ok, cmp_int, eq_int, add_int, sub_int, gc_d, Bool.not_true, Bool.not_false, Bool.false_eq_true, if_false, l0__law_due, ex0, ex1, ex2, ex3, ei, ea, hf, eq_strs, decide_true, Bool.false_bne]
          · rw [hqk] at ex2
            rw [if_neg (by rw [hqk]; exact hne2)] at hf
            simp only [fn, List.length_cons, List.length_nil, if_true, List.map_cons, List.map_nil, List.replicate, List.cons_append, List.nil_append, Nat.reduceAdd, Nat.reduceSub, Nat.reduceLeDiff, sizeMax, sCons_eq, sRet_eq, sRetN_eq, sIf_eq, sAsg_eq, sExpr_eq, sNil_eq, put_nm, List.set_cons_succ, List.set_cons_zero, eVar_eq, eCon_eq, eOp1_eq, eOp2_eq, eOpN_eq, eCall_eq, eIf_eq, eAnd_eq, eNot_eq, eTup_eq, eLst_eq, aCons_eq, aNil_eq, tVal_eq, tAnd_eq, tOr_eq, tNot_eq, tYes_eq, onB_some, asBool_bool, List.getElem?_cons_succ, List.getElem?_cons_zero, R.bind_ok, R.of_some, R.then_ok, Out.seq_nx, Out.seq_rt, outR_rt, outR_nx, tidy_ok, cmp_int, eq_int, add_int, sub_int, gc_d, Bool.not_true, Bool.not_false, Bool.false_eq_true, if_false, l0__law_due, ex0, ex1, ex2, ex3, ei, ea, hf, eq_strs, hne2, decide_false, Bool.false_bne]
        · rw [Bool.eq_false_iff]
          intro hc
          have := (fitsAll_iff hne).mp hc i q u hq hu'
          rw [hf] at this; cases this)
    (L := [x0, some w, x2, some (.d (enPs ps)), y4, y5]) (h := h) ⟨⟨_, _, rfl⟩, rfl, fun j q u hj => absurd hj (Nat.not_lt_zero _)⟩
  rcases loop with ⟨L2, h2, e2, ⟨y, z, rfl⟩, rfl, hall⟩ | ⟨r, h2, e2, rfl, rfl, hf⟩
  · exact .inl ⟨(fitsAll_iff hne).mpr fun i q u e1 e2 => hall i q u (by have := (List.getElem?_eq_some_iff.mp e1).1; omega) e1 e2, y, z, e2⟩
  · exact .inr ⟨hf, e2⟩
theorem fitsAll_each {ps : List (Str × Str)} {ws : List W} (hl : ws.length = ps.length) (hf : fitsAll h ps ws = true) : ∀ u ∈ ws, ∃ k, fitB h k u = true := by
  intro u hu
  obtain ⟨i, hi⟩ := List.getElem?_of_mem hu
  have hlt := (List.getElem?_eq_some_iff.mp hi).1
  exact ⟨(ps[i]'(by omega)).2, (fitsAll_iff hl).mp hf i _ u (List.getElem?_eq_getElem (by omega)) hi⟩
/-- what check_call raises -/
abbrev beX (k : Int) : Mi.Ex := ⟨Str.ofString "BadEntry", [(Str.ofString "place", .int k)]⟩
abbrev bsX : Mi.Ex := ⟨Str.ofString "BadState", []⟩
theorem raise_be {k : Int} (hk : 0 ≤ k ∧ k ≤ 3) {L : Loc} {M : Hh} : sRaise (xNew "BadEntry" ["place"] okA1 (aCons (eCon (.int k)) aNil)) L M = .ex (beX k) L M := by
  have : k.natAbs.log2 < 1920 := by
    have : k.natAbs < 4 := by omega
    have h4 : ∀ n : Nat, n < 4 → n.log2 < 1920 := by decide
    exact h4 _ this
  simp only [sRaise, xNew, aCons_eq, eCon_eq, aNil_eq, R.bind_ok, okA1]
  rw [if_pos this]
  rfl
theorem raise_bs {L : Loc} {M : Hh} : sRaise (xNew0 "BadState") L M = .ex bsX L M := rfl
/-- both answer alike -/
inductive Alike : PyData → R W → Hh → Prop
  | fine (h : Hh) : Alike .none (.ok .non h) h
  | bad (k : Int) (h : Hh) : 0 ≤ k ∧ k ≤ 3 → Alike (.int k) (.ex (beX k) h) h
  | kept (h : Hh) : Alike (.str "kept") (.ex bsX h) h
end
end Sp
end

section
/-! Sv21: the law's verdict and the program's are alike. -/
namespace Sp
open Mi Sem
open PySem (PyData Str)
section
variable {h : Hh} {w u : W} {B : List Head → Head → PyData → Prop} {hs : List Head} {opn : List Open} {fs : List PyData} {P : PyData}
theorem notin_ok {nm : Str} (hol : opn.length ≤ 8) {a c d : W} (hw : w.items = some [a, .d (.str nm), c, d]) : tGc (tVal (eOp2 opNotIn (eOp2 opIx (eVar 1) (eCon (.int 1))) (eComp (iSeq (eOp2 opIx (eVar 0) (eCon (.int 2)))) [2] (.nm 2) tYes (eOp2 opIx (eVar 2) (eCon (.int 0)))))) [some (.d (enProg fs opn)), some w, none, none, none, none] h = .ok (!decide (nm ∈ opn.map (·.1))) h := by
  refine tGc_ok (h' := h ++ [.lst ((opn.map (·.1)).map W.str)]) ?_ List.take_left
  have en := onames_ok (opn := opn) (fs := fs) (h := h) (L := [some (.d (enProg fs opn)), some w, none, none, none, none]) (i := 0) (j := 2) hol rfl (by simp)
  have ex1 : opIx w (.d (.int 1)) h = some (.d (.str nm), h) := opIx_w (n := 1) hw rfl
  have e2 := in_strs (neg := true) (n := nm) (ns := opn.map (·.1)) (a := h.length) (M := h ++ [.lst ((opn.map (·.1)).map W.str)]) (by simp)
  simp only [fn, List.length_cons, List.length_nil, if_true, List.map_cons, List.map_nil, List.replicate, List.cons_append, List.nil_append, Nat.reduceAdd, Nat.reduceSub, Nat.reduceLeDiff, sizeMax, sCons_eq, sRet_eq, sRetN_eq, sIf_eq, sAsg_eq, sExpr_eq, sNil_eq, put_nm, List.set_cons_succ, List.set_cons_zero, eVar_eq, eCon_eq, eOp1_eq, eOp2_eq, eOpN_eq, eCall_eq, eIf_eq, eAnd_eq, eNot_eq, eTup_eq, eLst_eq, aCons_eq, aNil_eq, tVal_eq, tAnd_eq, tOr_eq, tNot_eq, tYes_eq, onB_some, asBool_bool, List.getElem?_cons_succ, List.getElem?_cons_zero, R.bind_ok, R.of_some, R.then_ok, Out.seq_nx, Out.seq_rt, outR_rt, outR_nx, tidy_ok, cmp_int, eq_int, add_int, sub_int, gc_d, Bool.not_true, Bool.not_false, Bool.false_eq_true, if_false, ex1, en, show opNotIn = opInB true from rfl, e2, Bool.true_bne]
theorem both_ok (k : ProgK B hs opn P) (v : V0 h w) : ∃ vd, m__law_due [.d P, w] h = .ok (.d vd) h ∧ Alike vd (m_check_call [.d P, w] h) h := by
  obtain ⟨fs, rfl, afs⟩ := k.shape
  obtain ⟨hl8, hol⟩ := k.small
  have zero : m__law_due [.d (enProg fs opn), w] h = .ok (.d (.int 0)) h → m_check_call [.d (enProg fs opn), w] h = .ex (beX 0) h → ∃ vd, m__law_due [.d (enProg fs opn), w] h = .ok (.d vd) h ∧ Alike vd (m_check_call [.d (enProg fs opn), w] h) h :=
    fun a b => ⟨_, a, by rw [b]; exact .bad 0 h (by omega)⟩
  obtain ⟨t, ht⟩ := v.ty
  have e1 := isI_ok (T := "tuple") ht
  cases hi : w.items with
  | none =>
    have : t ≠ "tuple" := fun z => by obtain ⟨ws, e⟩ := (ty_tuple ht).mp z; rw [hi] at e; cases e
    have e1 := isI_tup ht this
    exact zero (by simp only [fn, List.length_cons, List.length_nil, if_true, List.map_cons, List.map_nil, List.replicate, List.cons_append, List.nil_append, Nat.reduceAdd, Nat.reduceSub, Nat.reduceLeDiff, sizeMax, sCons_eq, sRet_eq, sRetN_eq, sIf_eq, sAsg_eq, sExpr_eq, sNil_eq, put_nm, List.set_cons_succ, List.set_cons_zero, eVar_eq, eCon_eq, eOp1_eq, eOp2_eq, eOpN_eq, eCall_eq, eIf_eq, eAnd_eq, eNot_eq, eTup_eq, eLst_eq, aCons_eq, aNil_eq, tVal_eq, tAnd_eq, tOr_eq, tNot_eq, tYes_eq, onB_some, asBool_bool, List.getElem?_cons_succ, List.getElem?_cons_zero, R.bind_ok, R.of_some, R.then_ok, Out.seq_nx, Out.seq_rt, outR_rt, outR_nx, tidy_ok, cmp_int, eq_int, add_int, sub_int, gc_d, Bool.not_true, Bool.not_false, Bool.false_eq_true, if_false, m__law_due, b__law_due, e1]) (by simp only [fn, List.length_cons, List.length_nil, if_true, List.map_cons, List.map_nil, List.replicate, List.cons_append, List.nil_append, Nat.reduceAdd, Nat.reduceSub, Nat.reduceLeDiff, sizeMax, sCons_eq, sRet_eq, sRetN_eq, sIf_eq, sAsg_eq, sExpr_eq, sNil_eq, put_nm, List.set_cons_succ, List.set_cons_zero, eVar_eq, eCon_eq, eOp1_eq, eOp2_eq, eOpN_eq, eCall_eq, eIf_eq, eAnd_eq, eNot_eq, eTup_eq, eLst_eq, aCons_eq, aNil_eq, tVal_eq, tAnd_eq, tOr_eq, tNot_eq, tYes_eq, onB_some, asBool_bool, List.getElem?_cons_succ, List.getElem?_cons_zero, R.bind_ok, R.of_some, R.then_ok, Out.seq_nx, Out.seq_rt, outR_rt, outR_nx, tidy_ok, cmp_int, eq_int, add_int, sub_int, gc_d, Bool.not_true, Bool.not_false, Bool.false_eq_true, if_false, m_check_call, b_check_call, e1, raise_be (k := 0) (by omega), Out.seq_ex, outR_ex, tidy_ex])
  | some ws =>
    have z := (ty_tuple ht).mpr ⟨ws, hi⟩
    subst z
    have e1 : isI "tuple" w h = some (.bool true, h) := by rw [e1]; rfl
    have elw := bLen_w (M := h) hi
    by_cases h4 : ws.length = 4
    · obtain ⟨a, b, c, d, rfl⟩ : ∃ a b c d, ws = [a, b, c, d] := by
        match ws, h4 with
        | [a, b, c, d], _ => exact ⟨a, b, c, d, rfl⟩
      obtain ⟨ha, ⟨⟨tb, hb⟩, hbs⟩, vc, vd⟩ := v.four a b c d hi
      have ex0 : ∀ M, opIx w (.d (.int 0)) M = some (a, M) := fun M => opIx_w (n := 0) (M := M) hi rfl
      have ex1 : ∀ M, opIx w (.d (.int 1)) M = some (b, M) := fun M => opIx_w (n := 1) (M := M) hi rfl
      have ex2 : ∀ M, opIx w (.d (.int 2)) M = some (c, M) := fun M => opIx_w (n := 2) (M := M) hi rfl
      have ex3 : ∀ M, opIx w (.d (.int 3)) M = some (d, M) := fun M => opIx_w (n := 3) (M := M) hi rfl
      have e4 : bLen [w] h = some (.int 4, h) := elw
      by_cases hc : a = .d (.str (Str.ofString "call"))
      · subst hc
        have one : m__law_due [.d (enProg fs opn), w] h = .ok (.d (.int 1)) h → m_check_call [.d (enProg fs opn), w] h = .ex (beX 1) h → ∃ vd, m__law_due [.d (enProg fs opn), w] h = .ok (.d vd) h ∧ Alike vd (m_check_call [.d (enProg fs opn), w] h) h :=
          fun a b => ⟨_, a, by rw [b]; exact .bad 1 h (by omega)⟩
        have eb := isI_ok (T := "str") hb
        obtain ⟨nb, en, hn1, hn2⟩ := isname_ok hb hbs
        by_cases hbt : tb = "str"
        · subst hbt
          obtain ⟨nm, rfl⟩ := str_val hb
          have eb : isI "str" (.d (.str nm)) h = some (.bool true, h) := eb
          have eo := open_ok (fs := fs) (h := h) (n := nm) hol
          have eni := notin_ok (fs := fs) (h := h) hol hi
          by_cases hm : nm ∈ opn.map (·.1)
          · obtain ⟨o0, ho0, hon⟩ := List.mem_map.mp hm
            have hg := idxOf_get hm
            rw [List.getElem?_map] at hg
            obtain ⟨o, ho, ho1⟩ := Option.map_eq_some_iff.mp hg
            have hom : o ∈ opn := List.mem_of_getElem? ho
            obtain ⟨ps, hps, hpp, hp2⟩ := k.each o hom
            have hmh : nm ∈ hs.map (·.1) := List.mem_map.mpr ⟨_, hps, ho1⟩
            have hfind : (opn.find? fun o => decide (o.1 = nm)) = some o := by rw [find_idx, ho]
            rw [hfind] at eo
            rw [decide_eq_true hm] at eni
            obtain ⟨x, f, hx, hxn, hxm, exf, exp⟩ := fun_at (M := h) afs hmh
            have hxps : x.2 = ps := by
              have hgx := List.getElem?_map (f := fun (x : Head) => x.1) (l := hs) (i := (hs.map (·.1)).idxOf nm)
              obtain ⟨j, hj⟩ := List.getElem?_of_mem hps
              have hj1 : (hs.map (·.1))[j]? = some nm := by rw [List.getElem?_map, hj]; simp [ho1]
              have hj2 : (hs.map (·.1))[(hs.map (·.1)).idxOf nm]? = some nm := idxOf_get hmh
              have hlt := (List.getElem?_eq_some_iff.mp hj1).1
              have := (List.getElem?_inj hlt k.nd).mp (hj1.trans hj2.symm)
              rw [← this, hj] at hx
              cases hx; rfl
            have hpo := (k.heads x hxm).1
            have nbt : nb = true := hn2 nm rfl (by rw [← hxn]; exact (k.heads x hxm).2)
            subst nbt
            rw [hxps] at exp hpo
            have eix := index_ok (opn := opn) (h := h) afs hl8 hmh
            have elx := lindex_ok (opn := opn) (h := h) afs hl8 hmh
            have efits := fits_ok (h := h) (w := c) hpo.kinds hpo.len vc
            have eare := are_ok vd
            have erow := row_ok vd
            have eisn : ∀ xs : List PyData, opIsN false (.d (.tuple xs)) (.d .none) h = some (.bool false, h) := fun xs => rfl
            have elp : bLen [.d (enPs ps)] h = some (.int (ps.length : Nat), h) := by simp [bLen]
            obtain ⟨⟨tc, htc⟩, hvc⟩ := vc
            have etc := isI_ok (T := "tuple") htc
            have hb1 : (ps.length : Int) < 4611686018427387904 := by have := hpo.len; omega
            have hb2 : -4611686018427387904 ≤ (ps.length : Int) := by omega
            have two : argsB h ps c = false → m__law_due [.d (enProg fs opn), w] h = .ok (.d (.int 2)) h → ∃ vd, m__law_due [.d (enProg fs opn), w] h = .ok (.d vd) h ∧ Alike vd (m_check_call [.d (enProg fs opn), w] h) h :=
              fun ha hd => ⟨_, hd, by
                have : m_check_call [.d (enProg fs opn), w] h = .ex (beX 2) h := by
                  rw [ha] at efits
                  simp only [fn, List.length_cons, List.length_nil, if_true, List.map_cons, List.map_nil, List.replicate, List.cons_append, List.nil_append, Nat.reduceAdd, Nat.reduceSub, Nat.reduceLeDiff, sizeMax, sCons_eq, sRet_eq, sRetN_eq, sIf_eq, sAsg_eq, sExpr_eq, sNil_eq, put_nm, List.set_cons_succ, List.set_cons_zero, eVar_eq, eCon_eq, eOp1_eq, eOp2_eq, eOpN_eq, eCall_eq, eIf_eq, eAnd_eq, eNot_eq, eTup_eq, eLst_eq, aCons_eq, aNil_eq, tVal_eq, tAnd_eq, tOr_eq, tNot_eq, tYes_eq, onB_some, asBool_bool, List.getElem?_cons_succ, List.getElem?_cons_zero, R.bind_ok, R.of_some, R.then_ok, Out.seq_nx, Out.seq_rt, outR_rt, outR_nx, tidy_ok, cmp_int, eq_int, add_int, sub_int, gc_d, Bool.not_true, Bool.not_false, Bool.false_eq_true, if_false, m_check_call, b_check_call, e1, e4, ex0, eq_strs, decide_true, ex1, en, eo, eisn, ex2, p1, eix, exf, exp, efits, Bool.bne_true, Bool.true_bne, beq_self_eq_true, raise_be (k := 2) (by omega), Out.seq_ex, outR_ex, tidy_ex]
                rw [this]; exact .bad 2 h (by omega)⟩
            have eloopr : iRange1 (eOpN bLen (aCons (eVar 3) aNil)) [some (.d (enProg fs opn)), some w, none, some (.d (enPs ps)), none, none] h = .ok (.rg 0 ps.length) h := by
              simp [iRange1_eq, elp, hb1, hb2]
            cases hci : c.items with
            | none =>
              have : tc ≠ "tuple" := fun z => by obtain ⟨ws, e⟩ := (ty_tuple htc).mp z; rw [hci] at e; cases e
              have etc := isI_tup htc this
              exact two (by simp [argsB, hci]) (by simp only [fn, List.length_cons, List.length_nil, if_true, List.map_cons, List.map_nil, List.replicate, List.cons_append, List.nil_append, Nat.reduceAdd, Nat.reduceSub, Nat.reduceLeDiff, sizeMax, sCons_eq, sRet_eq, sRetN_eq, sIf_eq, sAsg_eq, sExpr_eq, sNil_eq, put_nm, List.set_cons_succ, List.set_cons_zero, eVar_eq, eCon_eq, eOp1_eq, eOp2_eq, eOpN_eq, eCall_eq, eIf_eq, eAnd_eq, eNot_eq, eTup_eq, eLst_eq, aCons_eq, aNil_eq, tVal_eq, tAnd_eq, tOr_eq, tNot_eq, tYes_eq, onB_some, asBool_bool, List.getElem?_cons_succ, List.getElem?_cons_zero, R.bind_ok, R.of_some, R.then_ok, Out.seq_nx, Out.seq_rt, outR_rt, outR_nx, tidy_ok, cmp_int, eq_int, add_int, sub_int, gc_d, Bool.not_true, Bool.not_false, Bool.false_eq_true, if_false, m__law_due, b__law_due, e1, e4, ex0, eq_strs, decide_true, ex1, eb, eni, p1, elx, exf, exp, ex2, etc, beq_self_eq_true, Bool.bne_true])
            | some ws =>
              have z := (ty_tuple htc).mpr ⟨ws, hci⟩
              subst z
              have etc : isI "tuple" c h = some (.bool true, h) := by rw [etc]; rfl
              obtain ⟨hcl, hcu⟩ := hvc ws hci
              have elc := bLen_w (M := h) hci
              by_cases hne : ws.length = ps.length
              · have hnei : ((ws.length : Nat) : Int) = (ps.length : Nat) := by omega
                rcases due_loop (x0 := some (.d (enProg fs opn))) (x2 := none) (y4 := none) (y5 := none) hpo.kinds hi hci hne hcu with ⟨hfa, z4, z5, el⟩ | ⟨hfa, el⟩
                · have hab : argsB h ps c = true := by simp [argsB, hci, hne, hfa]
                  rw [hab] at efits
                  have hfe := fitsAll_each hne hfa
                  have hpp' : PromsOk ((ws.length : Int) + 1) o.2 := by rw [hnei]; exact hpp
                  cases hr : rowB h d with
                  | false =>
                    rw [hr] at eare erow
                    refine ⟨.int 3, ?_, ?_⟩
                    · simp only [fn, List.length_cons, List.length_nil, if_true, List.map_cons, List.map_nil, List.replicate, List.cons_append, List.nil_append, Nat.reduceAdd, Nat.reduceSub, Nat.reduceLeDiff, sizeMax, sCons_eq, sRet_eq, sRetN_eq, sIf_eq, sAsg_eq, sExpr_eq, sNil_eq, put_nm, List.set_cons_succ, List.set_cons_zero, eVar_eq, eCon_eq, eOp1_eq, eOp2_eq, eOpN_eq, eCall_eq, eIf_eq, eAnd_eq, eNot_eq, eTup_eq, eLst_eq, aCons_eq, aNil_eq, tVal_eq, tAnd_eq, tOr_eq, tNot_eq, tYes_eq, onB_some, asBool_bool, List.getElem?_cons_succ, List.getElem?_cons_zero, R.bind_ok, R.of_some, R.then_ok, Out.seq_nx, Out.seq_rt, outR_rt, outR_nx, tidy_ok, cmp_int, eq_int, add_int, sub_int, gc_d, Bool.not_true, Bool.not_false, Bool.false_eq_true, if_false, m__law_due, b__law_due, e1, e4, ex0, eq_strs, decide_true, ex1, eb, eni, p1, elx, exf, exp, ex2, etc, elc, elp, hnei, sFor_eq, eloopr, items_rg, el, ex3, erow, beq_self_eq_true, Bool.bne_true, Bool.true_bne]
                    · have : m_check_call [.d (enProg fs opn), w] h = .ex (beX 3) h := by
                        simp only [fn, List.length_cons, List.length_nil, if_true, List.map_cons, List.map_nil, List.replicate, List.cons_append, List.nil_append, Nat.reduceAdd, Nat.reduceSub, Nat.reduceLeDiff, sizeMax, sCons_eq, sRet_eq, sRetN_eq, sIf_eq, sAsg_eq, sExpr_eq, sNil_eq, put_nm, List.set_cons_succ, List.set_cons_zero, eVar_eq, eCon_eq, eOp1_eq, eOp2_eq, eOpN_eq, eCall_eq, eIf_eq, eAnd_eq, eNot_eq, eTup_eq, eLst_eq, aCons_eq, aNil_eq, tVal_eq, tAnd_eq, tOr_eq, tNot_eq, tYes_eq, onB_some, asBool_bool, List.getElem?_cons_succ, List.getElem?_cons_zero, R.bind_ok, R.of_some, R.then_ok, Out.seq_nx, Out.seq_rt, outR_rt, outR_nx, tidy_ok, cmp_int, eq_int, add_int, sub_int, gc_d, Bool.not_true, Bool.not_false, Bool.false_eq_true, if_false, m_check_call, b_check_call, e1, e4, ex0, eq_strs, decide_true, ex1, en, eo, eisn, ex2, p1, eix, exf, exp, efits, ex3, eare, Bool.bne_true, Bool.true_bne, beq_self_eq_true, raise_be (k := 3) (by omega), Out.seq_ex, outR_ex, tidy_ex]
                      rw [this]; exact .bad 3 h (by omega)
                  | true =>
                    rw [hr] at eare erow
                    have ek := keeps_ok (fs := fs) (h := h) hi hci hcl hfe hm ho hpp' hp2 hol
                    have ekc := kept_ok (h := h) hci hcl hfe hpp' hp2
                    cases hkp : o.2.all (keepB (szs ws)) with
                    | false =>
                      rw [hkp] at ek ekc
                      refine ⟨.str "kept", ?_, ?_⟩
                      · simp only [fn, List.length_cons, List.length_nil, if_true, List.map_cons, List.map_nil, List.replicate, List.cons_append, List.nil_append, Nat.reduceAdd, Nat.reduceSub, Nat.reduceLeDiff, sizeMax, sCons_eq, sRet_eq, sRetN_eq, sIf_eq, sAsg_eq, sExpr_eq, sNil_eq, put_nm, List.set_cons_succ, List.set_cons_zero, eVar_eq, eCon_eq, eOp1_eq, eOp2_eq, eOpN_eq, eCall_eq, eIf_eq, eAnd_eq, eNot_eq, eTup_eq, eLst_eq, aCons_eq, aNil_eq, tVal_eq, tAnd_eq, tOr_eq, tNot_eq, tYes_eq, onB_some, asBool_bool, List.getElem?_cons_succ, List.getElem?_cons_zero, R.bind_ok, R.of_some, R.then_ok, Out.seq_nx, Out.seq_rt, outR_rt, outR_nx, tidy_ok, cmp_int, eq_int, add_int, sub_int, gc_d, Bool.not_true, Bool.not_false, Bool.false_eq_true, if_false, m__law_due, b__law_due, e1, e4, ex0, eq_strs, decide_true, ex1, eb, eni, p1, elx, exf, exp, ex2, etc, elc, elp, hnei, sFor_eq, eloopr, items_rg, el, ex3, erow, ek, beq_self_eq_true, Bool.bne_true, Bool.true_bne]
                      · have : m_check_call [.d (enProg fs opn), w] h = .ex bsX h := by
                          simp only [fn, List.length_cons, List.length_nil, if_true, List.map_cons, List.map_nil, List.replicate, List.cons_append, List.nil_append, Nat.reduceAdd, Nat.reduceSub, Nat.reduceLeDiff, sizeMax, sCons_eq, sRet_eq, sRetN_eq, sIf_eq, sAsg_eq, sExpr_eq, sNil_eq, put_nm, List.set_cons_succ, List.set_cons_zero, eVar_eq, eCon_eq, eOp1_eq, eOp2_eq, eOpN_eq, eCall_eq, eIf_eq, eAnd_eq, eNot_eq, eTup_eq, eLst_eq, aCons_eq, aNil_eq, tVal_eq, tAnd_eq, tOr_eq, tNot_eq, tYes_eq, onB_some, asBool_bool, List.getElem?_cons_succ, List.getElem?_cons_zero, R.bind_ok, R.of_some, R.then_ok, Out.seq_nx, Out.seq_rt, outR_rt, outR_nx, tidy_ok, cmp_int, eq_int, add_int, sub_int, gc_d, Bool.not_true, Bool.not_false, Bool.false_eq_true, if_false, m_check_call, b_check_call, e1, e4, ex0, eq_strs, decide_true, ex1, en, eo, eisn, ex2, p1, eix, exf, exp, efits, ex3, eare, ekc, Bool.bne_true, Bool.true_bne, beq_self_eq_true, raise_bs, Out.seq_ex, outR_ex, tidy_ex]
                        rw [this]; exact .kept h
                    | true =>
                      rw [hkp] at ek ekc
                      refine ⟨.none, ?_, ?_⟩
                      · simp only [fn, List.length_cons, List.length_nil, if_true, List.map_cons, List.map_nil, List.replicate, List.cons_append, List.nil_append, Nat.reduceAdd, Nat.reduceSub, Nat.reduceLeDiff, sizeMax, sCons_eq, sRet_eq, sRetN_eq, sIf_eq, sAsg_eq, sExpr_eq, sNil_eq, put_nm, List.set_cons_succ, List.set_cons_zero, eVar_eq, eCon_eq, eOp1_eq, eOp2_eq, eOpN_eq, eCall_eq, eIf_eq, eAnd_eq, eNot_eq, eTup_eq, eLst_eq, aCons_eq, aNil_eq, tVal_eq, tAnd_eq, tOr_eq, tNot_eq, tYes_eq, onB_some, asBool_bool, List.getElem?_cons_succ, List.getElem?_cons_zero, R.bind_ok, R.of_some, R.then_ok, Out.seq_nx, Out.seq_rt, outR_rt, outR_nx, tidy_ok, cmp_int, eq_int, add_int, sub_int, gc_d, Bool.not_true, Bool.not_false, Bool.false_eq_true, if_false, m__law_due, b__law_due, e1, e4, ex0, eq_strs, decide_true, ex1, eb, eni, p1, elx, exf, exp, ex2, etc, elc, elp, hnei, sFor_eq, eloopr, items_rg, el, ex3, erow, ek, beq_self_eq_true, Bool.bne_true, Bool.true_bne]
                      · have : m_check_call [.d (enProg fs opn), w] h = .ok .non h := by
                          simp only [fn, List.length_cons, List.length_nil, if_true, List.map_cons, List.map_nil, List.replicate, List.cons_append, List.nil_append, Nat.reduceAdd, Nat.reduceSub, Nat.reduceLeDiff, sizeMax, sCons_eq, sRet_eq, sRetN_eq, sIf_eq, sAsg_eq, sExpr_eq, sNil_eq, put_nm, List.set_cons_succ, List.set_cons_zero, eVar_eq, eCon_eq, eOp1_eq, eOp2_eq, eOpN_eq, eCall_eq, eIf_eq, eAnd_eq, eNot_eq, eTup_eq, eLst_eq, aCons_eq, aNil_eq, tVal_eq, tAnd_eq, tOr_eq, tNot_eq, tYes_eq, onB_some, asBool_bool, List.getElem?_cons_succ, List.getElem?_cons_zero, R.bind_ok, R.of_some, R.then_ok, Out.seq_nx, Out.seq_rt, outR_rt, outR_nx, tidy_ok, cmp_int, eq_int, add_int, sub_int, gc_d, Bool.not_true, Bool.not_false, Bool.false_eq_true, if_false, m_check_call, b_check_call, e1, e4, ex0, eq_strs, decide_true, ex1, en, eo, eisn, ex2, p1, eix, exf, exp, efits, ex3, eare, ekc, Bool.bne_true, Bool.true_bne, beq_self_eq_true]
                        rw [this]; exact .fine h
                · exact two (by simp [argsB, hci, hfa]) (by simp only [fn, List.length_cons, List.length_nil, if_true, List.map_cons, List.map_nil, List.replicate, List.cons_append, List.nil_append, Nat.reduceAdd, Nat.reduceSub, Nat.reduceLeDiff, sizeMax, sCons_eq, sRet_eq, sRetN_eq, sIf_eq, sAsg_eq, sExpr_eq, sNil_eq, put_nm, List.set_cons_succ, List.set_cons_zero, eVar_eq, eCon_eq, eOp1_eq, eOp2_eq, eOpN_eq, eCall_eq, eIf_eq, eAnd_eq, eNot_eq, eTup_eq, eLst_eq, aCons_eq, aNil_eq, tVal_eq, tAnd_eq, tOr_eq, tNot_eq, tYes_eq, onB_some, asBool_bool, List.getElem?_cons_succ, List.getElem?_cons_zero, R.bind_ok, R.of_some, R.then_ok, Out.seq_nx, Out.seq_rt, outR_rt, outR_nx, tidy_ok, cmp_int, eq_int, add_int, sub_int, gc_d, Bool.not_true, Bool.not_false, Bool.false_eq_true, if_false, m__law_due, b__law_due, e1, e4, ex0, eq_strs, decide_true, ex1, eb, eni, p1, elx, exf, exp, ex2, etc, elc, elp, hnei, sFor_eq, eloopr, items_rg, el, beq_self_eq_true, Bool.bne_true, Bool.true_bne])
              · have hnei : ¬ ((ws.length : Nat) : Int) = (ps.length : Nat) := by omega
                have hnb : (((ws.length : Nat) : Int) == ((ps.length : Nat) : Int)) = false := by simpa using hnei
                exact two (by simp [argsB, hci, hne]) (by simp only [fn, List.length_cons, List.length_nil, if_true, List.map_cons, List.map_nil, List.replicate, List.cons_append, List.nil_append, Nat.reduceAdd, Nat.reduceSub, Nat.reduceLeDiff, sizeMax, sCons_eq, sRet_eq, sRetN_eq, sIf_eq, sAsg_eq, sExpr_eq, sNil_eq, put_nm, List.set_cons_succ, List.set_cons_zero, eVar_eq, eCon_eq, eOp1_eq, eOp2_eq, eOpN_eq, eCall_eq, eIf_eq, eAnd_eq, eNot_eq, eTup_eq, eLst_eq, aCons_eq, aNil_eq, tVal_eq, tAnd_eq, tOr_eq, tNot_eq, tYes_eq, onB_some, asBool_bool, List.getElem?_cons_succ, List.getElem?_cons_zero, R.bind_ok, R.of_some, R.then_ok, Out.seq_nx, Out.seq_rt, outR_rt, outR_nx, tidy_ok, cmp_int, eq_int, add_int, sub_int, gc_d, Bool.not_true, Bool.not_false, Bool.false_eq_true, if_false, m__law_due, b__law_due, e1, e4, ex0, eq_strs, decide_true, ex1, eb, eni, p1, elx, exf, exp, ex2, etc, elc, elp, hnb, beq_self_eq_true, Bool.bne_true, Bool.true_bne])
          · rw [decide_eq_false hm] at eni
            have hfind : (opn.find? fun o => decide (o.1 = nm)) = none := by
              rw [List.find?_eq_none]
              intro o ho hd
              exact hm (List.mem_map.mpr ⟨o, ho, of_decide_eq_true hd⟩)
            rw [hfind] at eo
            have eisn : opIsN false (.d .none) (.d .none) h = some (.bool true, h) := rfl
            refine one (by simp only [fn, List.length_cons, List.length_nil, if_true, List.map_cons, List.map_nil, List.replicate, List.cons_append, List.nil_append, Nat.reduceAdd, Nat.reduceSub, Nat.reduceLeDiff, sizeMax, sCons_eq, sRet_eq, sRetN_eq, sIf_eq, sAsg_eq, sExpr_eq, sNil_eq, put_nm, List.set_cons_succ, List.set_cons_zero, eVar_eq, eCon_eq, eOp1_eq, eOp2_eq, eOpN_eq, eCall_eq, eIf_eq, eAnd_eq, eNot_eq, eTup_eq, eLst_eq, aCons_eq, aNil_eq, tVal_eq, tAnd_eq, tOr_eq, tNot_eq, tYes_eq, onB_some, asBool_bool, List.getElem?_cons_succ, List.getElem?_cons_zero, R.bind_ok, R.of_some, R.then_ok, Out.seq_nx, Out.seq_rt, outR_rt, outR_nx, tidy_ok, cmp_int, eq_int, add_int, sub_int, gc_d, Bool.not_true, Bool.not_false, Bool.false_eq_true, if_false, m__law_due, b__law_due, e1, e4, ex0, eq_strs, decide_true, ex1, eb, eni, beq_self_eq_true, Bool.bne_true, Bool.true_bne]) ?_
            cases nb
            · simp only [fn, List.length_cons, List.length_nil, if_true, List.map_cons, List.map_nil, List.replicate, List.cons_append, List.nil_append, Nat.reduceAdd, Nat.reduceSub, Nat.reduceLeDiff, sizeMax, sCons_eq, sRet_eq, sRetN_eq, sIf_eq, sAsg_eq, sExpr_eq, sNil_eq, put_nm, List.set_cons_succ, List.set_cons_zero, eVar_eq, eCon_eq, eOp1_eq, eOp2_eq, eOpN_eq, eCall_eq, eIf_eq, eAnd_eq, eNot_eq, eTup_eq, eLst_eq, aCons_eq, aNil_eq, tVal_eq, tAnd_eq, tOr_eq, tNot_eq, tYes_eq, onB_some, asBool_bool, List.getElem?_cons_succ, List.getElem?_cons_zero, R.bind_ok, R.of_some, R.then_ok, Out.seq_nx, Out.seq_rt, outR_rt, outR_nx, tidy_ok, cmp_int, eq_int, add_int, sub_int, gc_d, Bool.not_true, Bool.not_false, Bool.false_eq_true, if_false, m_check_call, b_check_call, e1, e4, ex0, eq_strs, decide_true, ex1, en, beq_self_eq_true, Bool.bne_true, Bool.true_bne, raise_be (k := 1) (by omega), Out.seq_ex, outR_ex, tidy_ex]
            · simp only [fn, List.length_cons, List.length_nil, if_true, List.map_cons, List.map_nil, List.replicate, List.cons_append, List.nil_append, Nat.reduceAdd, Nat.reduceSub, Nat.reduceLeDiff, sizeMax, sCons_eq, sRet_eq, sRetN_eq, sIf_eq, sAsg_eq, sExpr_eq, sNil_eq, put_nm, List.set_cons_succ, List.set_cons_zero, eVar_eq, eCon_eq, eOp1_eq, eOp2_eq, eOpN_eq, eCall_eq, eIf_eq, eAnd_eq, eNot_eq, eTup_eq, eLst_eq, aCons_eq, aNil_eq, tVal_eq, tAnd_eq, tOr_eq, tNot_eq, tYes_eq, onB_some, asBool_bool, List.getElem?_cons_succ, List.getElem?_cons_zero, R.bind_ok, R.of_some, R.then_ok, Out.seq_nx, Out.seq_rt, outR_rt, outR_nx, tidy_ok, cmp_int, eq_int, add_int, sub_int, gc_d, Bool.not_true, Bool.not_false, Bool.false_eq_true, if_false, m_check_call, b_check_call, e1, e4, ex0, eq_strs, decide_true, ex1, en, eo, eisn, beq_self_eq_true, Bool.bne_true, Bool.true_bne, raise_be (k := 1) (by omega), Out.seq_ex, outR_ex, tidy_ex]
        · have eb : isI "str" b h = some (.bool false, h) := by rw [eb]; simp [hbt]
          have : nb = false := by
            cases nb with
            | false => rfl
            | true => obtain ⟨s, e⟩ := hn1 rfl; subst e; simp [tyW] at hb; exact absurd hb.symm hbt
          subst this
          exact one (by simp only [fn, List.length_cons, List.length_nil, if_true, List.map_cons, List.map_nil, List.replicate, List.cons_append, List.nil_append, Nat.reduceAdd, Nat.reduceSub, Nat.reduceLeDiff, sizeMax, sCons_eq, sRet_eq, sRetN_eq, sIf_eq, sAsg_eq, sExpr_eq, sNil_eq, put_nm, List.set_cons_succ, List.set_cons_zero, eVar_eq, eCon_eq, eOp1_eq, eOp2_eq, eOpN_eq, eCall_eq, eIf_eq, eAnd_eq, eNot_eq, eTup_eq, eLst_eq, aCons_eq, aNil_eq, tVal_eq, tAnd_eq, tOr_eq, tNot_eq, tYes_eq, onB_some, asBool_bool, List.getElem?_cons_succ, List.getElem?_cons_zero, R.bind_ok, R.of_some, R.then_ok, Out.seq_nx, Out.seq_rt, outR_rt, outR_nx, tidy_ok, cmp_int, eq_int, add_int, sub_int, gc_d, Bool.not_true, Bool.not_false, Bool.false_eq_true, if_false, m__law_due, b__law_due, e1, e4, ex0, eq_strs, decide_true, ex1, eb, beq_self_eq_true, Bool.bne_true, Bool.true_bne]) (by simp only [fn, List.length_cons, List.length_nil, if_true, List.map_cons, List.map_nil, List.replicate, List.cons_append, List.nil_append, Nat.reduceAdd, Nat.reduceSub, Nat.reduceLeDiff, sizeMax, sCons_eq, sRet_eq, sRetN_eq, sIf_eq, sAsg_eq, sExpr_eq, sNil_eq, put_nm, List.set_cons_succ, List.set_cons_zero, eVar_eq, eCon_eq, eOp1_eq, eOp2_eq, eOpN_eq, eCall_eq, eIf_eq, eAnd_eq, eNot_eq, eTup_eq, eLst_eq, aCons_eq, aNil_eq, tVal_eq, tAnd_eq, tOr_eq, tNot_eq, tYes_eq, onB_some, asBool_bool, List.getElem?_cons_succ, List.getElem?_cons_zero, R.bind_ok, R.of_some, R.then_ok, Out.seq_nx, Out.seq_rt, outR_rt, outR_nx, tidy_ok, cmp_int, eq_int, add_int, sub_int, gc_d, Bool.not_true, Bool.not_false, Bool.false_eq_true, if_false, m_check_call, b_check_call, e1, e4, ex0, eq_strs, decide_true, ex1, en, beq_self_eq_true, Bool.bne_true, Bool.true_bne, raise_be (k := 1) (by omega), Out.seq_ex, outR_ex, tidy_ex])
      · have ene : opEqB true a (.d (.str (Str.ofString "call"))) h = some (.bool true, h) := by
          rcases ha with ⟨s, rfl⟩ | ⟨i, rfl⟩
          · rw [eq_strs]
            have : ¬ s = Str.ofString "call" := fun z => hc (by rw [z])
            simp [this]
          · rw [eq_int_str]
        exact zero (by simp only [fn, List.length_cons, List.length_nil, if_true, List.map_cons, List.map_nil, List.replicate, List.cons_append, List.nil_append, Nat.reduceAdd, Nat.reduceSub, Nat.reduceLeDiff, sizeMax, sCons_eq, sRet_eq, sRetN_eq, sIf_eq, sAsg_eq, sExpr_eq, sNil_eq, put_nm, List.set_cons_succ, List.set_cons_zero, eVar_eq, eCon_eq, eOp1_eq, eOp2_eq, eOpN_eq, eCall_eq, eIf_eq, eAnd_eq, eNot_eq, eTup_eq, eLst_eq, aCons_eq, aNil_eq, tVal_eq, tAnd_eq, tOr_eq, tNot_eq, tYes_eq, onB_some, asBool_bool, List.getElem?_cons_succ, List.getElem?_cons_zero, R.bind_ok, R.of_some, R.then_ok, Out.seq_nx, Out.seq_rt, outR_rt, outR_nx, tidy_ok, cmp_int, eq_int, add_int, sub_int, gc_d, Bool.not_true, Bool.not_false, Bool.false_eq_true, if_false, m__law_due, b__law_due, e1, e4, ex0, show opNe = opEqB true from rfl, ene, eq_int, beq_self_eq_true, Bool.bne_true, Bool.true_bne]) (by simp only [fn, List.length_cons, List.length_nil, if_true, List.map_cons, List.map_nil, List.replicate, List.cons_append, List.nil_append, Nat.reduceAdd, Nat.reduceSub, Nat.reduceLeDiff, sizeMax, sCons_eq, sRet_eq, sRetN_eq, sIf_eq, sAsg_eq, sExpr_eq, sNil_eq, put_nm, List.set_cons_succ, List.set_cons_zero, eVar_eq, eCon_eq, eOp1_eq, eOp2_eq, eOpN_eq, eCall_eq, eIf_eq, eAnd_eq, eNot_eq, eTup_eq, eLst_eq, aCons_eq, aNil_eq, tVal_eq, tAnd_eq, tOr_eq, tNot_eq, tYes_eq, onB_some, asBool_bool, List.getElem?_cons_succ, List.getElem?_cons_zero, R.bind_ok, R.of_some, R.then_ok, Out.seq_nx, Out.seq_rt, outR_rt, outR_nx, tidy_ok, cmp_int, eq_int, add_int, sub_int, gc_d, Bool.not_true, Bool.not_false, Bool.false_eq_true, if_false, m_check_call, b_check_call, e1, e4, ex0, show opNe = opEqB true from rfl, ene, eq_int, beq_self_eq_true, Bool.bne_true, Bool.true_bne, raise_be (k := 0) (by omega), Out.seq_ex, outR_ex, tidy_ex])
    · have hnb : (((ws.length : Nat) : Int) == 4) = false := by simp; omega
      exact zero (by simp only [fn, List.length_cons, List.length_nil, if_true, List.map_cons, List.map_nil, List.replicate, List.cons_append, List.nil_append, Nat.reduceAdd, Nat.reduceSub, Nat.reduceLeDiff, sizeMax, sCons_eq, sRet_eq, sRetN_eq, sIf_eq, sAsg_eq, sExpr_eq, sNil_eq, put_nm, List.set_cons_succ, List.set_cons_zero, eVar_eq, eCon_eq, eOp1_eq, eOp2_eq, eOpN_eq, eCall_eq, eIf_eq, eAnd_eq, eNot_eq, eTup_eq, eLst_eq, aCons_eq, aNil_eq, tVal_eq, tAnd_eq, tOr_eq, tNot_eq, tYes_eq, onB_some, asBool_bool, List.getElem?_cons_succ, List.getElem?_cons_zero, R.bind_ok, R.of_some, R.then_ok, Out.seq_nx, Out.seq_rt, outR_rt, outR_nx, tidy_ok, cmp_int, eq_int, add_int, sub_int, gc_d, Bool.not_true, Bool.not_false, Bool.false_eq_true, if_false, m__law_due, b__law_due, e1, elw, hnb, Bool.bne_true, Bool.true_bne, Bool.bne_false]) (by simp only [fn, List.length_cons, List.length_nil, if_true, List.map_cons, List.map_nil, List.replicate, List.cons_append, List.nil_append, Nat.reduceAdd, Nat.reduceSub, Nat.reduceLeDiff, sizeMax, sCons_eq, sRet_eq, sRetN_eq, sIf_eq, sAsg_eq, sExpr_eq, sNil_eq, put_nm, List.set_cons_succ, List.set_cons_zero, eVar_eq, eCon_eq, eOp1_eq, eOp2_eq, eOpN_eq, eCall_eq, eIf_eq, eAnd_eq, eNot_eq, eTup_eq, eLst_eq, aCons_eq, aNil_eq, tVal_eq, tAnd_eq, tOr_eq, tNot_eq, tYes_eq, onB_some, asBool_bool, List.getElem?_cons_succ, List.getElem?_cons_zero, R.bind_ok, R.of_some, R.then_ok, Out.seq_nx, Out.seq_rt, outR_rt, outR_nx, tidy_ok, cmp_int, eq_int, add_int, sub_int, gc_d, Bool.not_true, Bool.not_false, Bool.false_eq_true, if_false, m_check_call, b_check_call, e1, elw, hnb, Bool.bne_true, Bool.true_bne, Bool.bne_false, raise_be (k := 0) (by omega), Out.seq_ex, outR_ex, tidy_ex])
end
end Sp
end

section
/-! Sw21: told, same; a call is drawn. -/
namespace Sp
open Mi Sem
open PySem (PyData Str)
section
variable {ds : List Int} {h h' : Hh} {w u : W} {B : List Head → Head → PyData → Prop} {hs : List Head} {opn : List Open} {fs : List PyData} {P : PyData}
theorem told_ok {vd : PyData} (a : Alike vd (m_check_call [.d P, w] h) h) : m__law_told [.d P, w] h = .ok (.d vd) h := by
  have hne : ¬ Str.ofString "BadState" = Str.ofString "BadEntry" := by decide +kernel
  generalize e : m_check_call [.d P, w] h = r at a
  cases a with
  | fine => simp only [fn, List.length_cons, List.length_nil, if_true, List.map_cons, List.map_nil, List.replicate, List.cons_append, List.nil_append, Nat.reduceAdd, Nat.reduceSub, Nat.reduceLeDiff, sizeMax, sCons_eq, sRet_eq, sRetN_eq, sIf_eq, sAsg_eq, sExpr_eq, sNil_eq, put_nm, List.set_cons_succ, List.set_cons_zero, eVar_eq, eCon_eq, eOp1_eq, eOp2_eq, eOpN_eq, eCall_eq, eIf_eq, eAnd_eq, eNot_eq, eTup_eq, eLst_eq, aCons_eq, aNil_eq, tVal_eq, tAnd_eq, tOr_eq, tNot_eq, tYes_eq, onB_some, asBool_bool, List.getElem?_cons_succ, List.getElem?_cons_zero, R.bind_ok, R.of_some, R.then_ok, Out.seq_nx, Out.seq_rt, outR_rt, outR_nx, tidy_ok, cmp_int, eq_int, add_int, sub_int, gc_d, Bool.not_true, Bool.not_false, Bool.false_eq_true, if_false, m__law_told, b__law_told, sTryR, e]
  | bad k _ hk =>
    simp [m__law_told, fn, b__law_told, sTryR, e, cm_told, f_told]
  | kept =>
    simp [m__law_told, fn, b__law_told, sTryR, e, cm_told, f_told, hne]
theorem same_ok {vd : PyData} {r : R W} (a : Alike vd r h) {M : Hh} : m__law_same [.d vd, .d vd] M = .ok (.bool true) M := by
  have hl : lettersB (Str.ofString "kept") = true := by decide +kernel
  have hl2 : (Str.ofString "kept").length ≤ 1000 := by decide +kernel
  have done : ∃ s, bRepr2 [.d vd] M = some (.d (.str s), M) := by
    cases a with
    | fine => exact ⟨_, rfl⟩
    | bad k _ hk =>
      have : k.natAbs.log2 < 1920 := by
        have : k.natAbs < 4 := by omega
        have h4 : ∀ n : Nat, n < 4 → n.log2 < 1920 := by decide
        exact h4 _ this
      exact ⟨_, by simp only [bRepr2]; rw [if_pos this]⟩
    | kept => exact ⟨_, by simp only [bRepr2]; rw [if_pos ⟨hl2, hl⟩]⟩
  obtain ⟨s, e⟩ := done
  simp only [fn, List.length_cons, List.length_nil, if_true, List.map_cons, List.map_nil, List.replicate, List.cons_append, List.nil_append, Nat.reduceAdd, Nat.reduceSub, Nat.reduceLeDiff, sizeMax, sCons_eq, sRet_eq, sRetN_eq, sIf_eq, sAsg_eq, sExpr_eq, sNil_eq, put_nm, List.set_cons_succ, List.set_cons_zero, eVar_eq, eCon_eq, eOp1_eq, eOp2_eq, eOpN_eq, eCall_eq, eIf_eq, eAnd_eq, eNot_eq, eTup_eq, eLst_eq, aCons_eq, aNil_eq, tVal_eq, tAnd_eq, tOr_eq, tNot_eq, tYes_eq, onB_some, asBool_bool, List.getElem?_cons_succ, List.getElem?_cons_zero, R.bind_ok, R.of_some, R.then_ok, Out.seq_nx, Out.seq_rt, outR_rt, outR_nx, tidy_ok, cmp_int, eq_int, add_int, sub_int, gc_d, Bool.not_true, Bool.not_false, Bool.false_eq_true, if_false, m__law_same, b__law_same, e, eq_strs, decide_true, Bool.false_bne]
/-! ### numbers are drawn -/
theorem eComp_at {i : IM} {vs : List Nat} {g : Tg} {t : TM} {e : EM} {L : Loc} {s : Src} (hi : i L h = .ok s h') : eComp i vs g t e L h = eComp (fun _ h => .ok s h) vs g t e L h' := by
  rw [eComp_eq, eComp_eq, hi]
theorem All2.ints {α : Type} {Q : Int → Prop} {xs : List α} {ys : List PyData} (a : All2 (fun _ y => ∃ z, y = .int z ∧ Q z) xs ys) : ∃ zs : List Int, ys = zs.map PyData.int ∧ ∀ z ∈ zs, Q z := by
  induction a with
  | nil => exact ⟨[], rfl, by simp⟩
  | cons h1 _ ih =>
    obtain ⟨z, rfl, q⟩ := h1
    obtain ⟨zs, rfl, qs⟩ := ih
    exact ⟨z :: zs, rfl, by intro y hy; rcases List.mem_cons.mp hy with rfl | hy; exact q; exact qs y hy⟩
theorem drawn_ints {n m c : Int} {v : Nat} {L : Loc} (b : Bd ds h) (hn : 0 < n ∧ n ≤ 1000) (hm : 0 < m) (hL : L[0]? = some (some (.ref 1))) (hv : v ≠ 0) :
    ∃ (zs : List Int) (h' : Hh), eGc (eOpN bTuple (aCons (eComp (iRange1 (eCall m__law_draw (aCons (eVar 0) (aCons (eCon (.int n)) aNil)))) [v] (.nm v) tYes (eOp2 opSub (eCall m__law_draw (aCons (eVar 0) (aCons (eCon (.int m)) aNil))) (eCon (.int c)))) aNil)) L h = .ok (.d (.tuple (zs.map PyData.int))) h' ∧ Bd ds h' ∧ Ex h h' ∧ (zs.length : Int) < n ∧ ∀ z ∈ zs, -c ≤ z ∧ z < m - c := by
  obtain ⟨i, h1, e1, b1, x1, i0, i1⟩ := draw (many := n) b hn.1
  have hi : iRange1 (eCall m__law_draw (aCons (eVar 0) (aCons (eCon (.int n)) aNil))) L h = .ok (.rg 0 i.toNat) h1 := by
    have c1 : -4611686018427387904 ≤ i := by omega
    have c2 : i < 4611686018427387904 := by omega
    rw [iRange1_eq]
    simp only [eCall_eq, aCons_eq, eVar_eq, hL, R.bind_ok, eCon_eq, aNil_eq, e1]
    rw [if_pos ⟨c1, c2⟩]
  obtain ⟨ys, h2, e2, b2, x2, a2, p2⟩ := eComp_bd (i := fun _ h => .ok (.rg 0 i.toNat) h) (vs := [v]) (g := .nm v) (e := eOp2 opSub (eCall m__law_draw (aCons (eVar 0) (aCons (eCon (.int m)) aNil))) (eCon (.int c))) (L := L) (enc := fun (j : Nat) => W.int (j : Int)) (s := .rg 0 i.toNat) (P := fun (_ : Nat) y => ∃ z, y = .int z ∧ (-c ≤ z ∧ z < m - c)) (xs := List.range i.toNat) b1 rfl (by simp [rgItems]) (fun _ _ => trivial) (by simp; omega) (fun x hx => ⟨_, rfl, fun h3 b3 x3 => by
    obtain ⟨j, h4, e4, b4, x4, j0, j1⟩ := draw (many := m) b3 hm
    refine ⟨.int (j - c), h4, ?_, b4, x4, j - c, rfl, by omega, by omega⟩
    have hg : ((wipeL L [v]).set v (some (W.int (x : Int))))[0]? = some (some (.ref 1)) := by
      rw [List.getElem?_set_ne hv]
      cases L with
      | nil => simp at hL
      | cons y L =>
        simp at hL
        subst hL
        show ((some (W.ref 1) :: L).set v none)[0]? = _
        rw [List.getElem?_set_ne hv]
        rfl
    simp only [eOp2_eq, eCall_eq, aCons_eq, eVar_eq, hg, R.bind_ok, eCon_eq, aNil_eq, e4, sub_int, R.of_some]⟩)
  obtain ⟨zs, rfl, q⟩ := p2.ints
  have hl := p2.length
  simp at hl
  have et : (eOpN bTuple (aCons (eComp (iRange1 (eCall m__law_draw (aCons (eVar 0) (aCons (eCon (.int n)) aNil)))) [v] (.nm v) tYes (eOp2 opSub (eCall m__law_draw (aCons (eVar 0) (aCons (eCon (.int m)) aNil))) (eCon (.int c)))) aNil)) L h = .ok (.d (.tuple (zs.map PyData.int))) h2 := by
    rw [eOpN_eq, aCons_eq, eComp_at hi, e2]
    simp only [R.bind_ok, aNil_eq, bTuple, a2, mkTup_map, R.of_some]
  obtain ⟨h3, e3, b3, x3, _⟩ := eGc_bd b et b2 (x1.trans x2)
  exact ⟨zs, h3, e3, b3, x3, by omega, q⟩
/-! ### a call -/
/-- an argument that is drawn -/
def ArgD (k : Str) (y : PyData) : Prop := if k = Str.ofString "int" then ∃ z, y = .int z ∧ (-2 ≤ z ∧ z < 6) else ∃ zs : List Int, y = .tuple (zs.map PyData.int) ∧ (zs.length : Int) < 5 ∧ ∀ z ∈ zs, -2 ≤ z ∧ z < 4
theorem All2.snoc {α β : Type} {P : α → β → Prop} {xs : List α} {ys : List β} {x : α} {y : β} (a : All2 P xs ys) (p : P x y) : All2 P (xs ++ [x]) (ys ++ [y]) := by
  induction a with
  | nil => exact .cons p .nil
  | cons h1 _ ih => exact .cons h1 ih
theorem add_tup {xs ys : List PyData} {M : Hh} (hl : xs.length + ys.length ≤ 16777216) : opAdd (.d (.tuple xs)) (.d (.tuple ys)) M = some (.d (.tuple (xs ++ ys)), M) := by
  simp only [opAdd, W.items_d, List.length_map, sizeMax]
  rw [if_pos hl, ← List.map_append, mkTup_map]
theorem call_ok (k : ProgK B hs opn P) (b : Bd ds h) : ∃ (nm : Str) (ps : List (Str × Str)) (ys : List PyData) (zs : List Int) (h' : Hh),
    m__law_call [.ref 1, .d P] h = .ok (.d (.tuple [.str "call", .str nm, .tuple ys, .tuple (zs.map PyData.int)])) h' ∧ Bd ds h' ∧ Ex h h' ∧ (nm, ps) ∈ hs ∧ nm ∈ opn.map (·.1) ∧ All2 (fun q y => ArgD q.2 y) ps ys ∧ (zs.length : Int) < 4 ∧ ∀ z ∈ zs, -3 ≤ z ∧ z < 4 := by
  obtain ⟨fs, rfl, afs⟩ := k.shape
  obtain ⟨hl8, hol⟩ := k.small
  obtain ⟨x, h1, e1, b1, x1, hx⟩ := pick_tup (xs := opn.map enO) b (by simpa using k.ne)
  obtain ⟨o, ho, rfl⟩ := List.mem_map.mp hx
  obtain ⟨ps, hps, _, _⟩ := k.each o ho
  have hmh : o.1 ∈ hs.map (·.1) := List.mem_map.mpr ⟨_, hps, rfl⟩
  obtain ⟨x, f, hx, hxn, hxm, exf, exp⟩ := fun_at (M := h1) afs hmh
  have elx := lindex_ok (opn := opn) (h := h1) afs hl8 hmh
  have hpo := (k.heads x hxm).1
  have ep2 := p2 (fs := fs) (opn := opn) (M := h)
  have ep1 := p1 (fs := fs) (opn := opn) (M := h1)
  have x0 : opIx (.d (enO o)) (.d (.int 0)) h1 = some (W.str o.1, h1) := opIx_tup (n := 0) rfl
  obtain ⟨L2, h2, e2, ys, y4, rfl, b2, x2, hys⟩ := forL_all (ok := (Src.tp (x.2.map fun q => W.d (enP q))).ok) (g := .nm 4) (body := l0__law_call) (enc := fun q => W.d (enP q)) (xs := x.2)
    (fun pre L h' => ∃ ys y4, L = [some (.ref 1), some (.d (enProg fs opn)), some (W.str o.1), some (.d (.tuple ys)), y4, none] ∧ Bd ds h' ∧ Ex h1 h' ∧ All2 (fun q y => ArgD q.2 y) pre ys)
    (fun _ _ _ _ => trivial)
    (fun pre q post L h' e ⟨ys, y4, eL, b2, x2, hys⟩ => by
      subst eL
      have hq : q ∈ x.2 := by rw [e]; simp
      have hpre : ys.length ≤ 5 := by
        have := hys.length; have := congrArg List.length e; have := hpo.len; simp at *; omega
      refine ⟨[some (.ref 1), some (.d (enProg fs opn)), some (W.str o.1), some (.d (.tuple ys)), some (.d (enP q)), none], rfl, ?_⟩
      have ex : opIx (.d (enP q)) (.d (.int 1)) h' = some (W.str q.2, h') := opIx_tup (n := 1) rfl
      by_cases c : q.2 = Str.ofString "int"
      · obtain ⟨i, h3, e3, b3, x3, i0, i1⟩ := draw (many := 8) b2 (by omega)
        have ea : opAdd (.d (.tuple ys)) (.d (.tuple [.int (i - 2)])) h3 = some (.d (.tuple (ys ++ [.int (i - 2)])), h3) := add_tup (by simp; omega)
        refine ⟨_, h3, .inl ?_, ys ++ [.int (i - 2)], some (.d (enP q)), rfl, b3, x2.trans x3, hys.snoc (by unfold ArgD; rw [if_pos c]; exact ⟨_, rfl, by omega, by omega⟩)⟩
        simp only [fn, List.length_cons, List.length_nil, if_true, List.map_cons, List.map_nil, List.replicate, List.cons_append, List.nil_append, Nat.reduceAdd, Nat.reduceSub, Nat.reduceLeDiff, sizeMax, sCons_eq, sRet_eq, sRetN_eq, sIf_eq, sAsg_eq, sExpr_eq, sNil_eq, put_nm, List.set_cons_succ, List.set_cons_zero, eVar_eq, eCon_eq, eOp1_eq, eOp2_eq, eOpN_eq, eCall_eq, eIf_eq, eAnd_eq, eNot_eq, eTup_eq, eLst_eq, aCons_eq, aNil_eq, tVal_eq, tAnd_eq, tOr_eq, tNot_eq, tYes_eq, onB_some, asBool_bool, List.getElem?_cons_succ, List.getElem?_cons_zero, R.bind_ok, R.of_some, R.then_ok, Out.seq_nx, Out.seq_rt, outR_rt, outR_nx, tidy_ok, cmp_int, eq_int, add_int, sub_int, gc_d, Bool.not_true, Bool.not_false, Bool.false_eq_true, if_false, l0__law_call, ex, eq_strs, c, decide_true, Bool.false_bne, e3, mkTup_d1, ea]
      · obtain ⟨zs, h3, e3, b3, x3, hz, hzz⟩ := drawn_ints (n := 5) (m := 6) (c := 2) (v := 5) (L := [some (.ref 1), some (.d (enProg fs opn)), some (W.str o.1), some (.d (.tuple ys)), some (.d (enP q)), none]) b2 (by omega) (by omega) rfl (by omega)
        have ea : opAdd (.d (.tuple ys)) (.d (.tuple [.tuple (zs.map PyData.int)])) h3 = some (.d (.tuple (ys ++ [.tuple (zs.map PyData.int)])), h3) := add_tup (by simp; omega)
        refine ⟨_, h3, .inl ?_, ys ++ [.tuple (zs.map PyData.int)], some (.d (enP q)), rfl, b3, x2.trans x3, hys.snoc (by unfold ArgD; rw [if_neg c]; exact ⟨_, rfl, hz, hzz⟩)⟩
        simp only [fn, List.length_cons, List.length_nil, if_true, List.map_cons, List.map_nil, List.replicate, List.cons_append, List.nil_append, Nat.reduceAdd, Nat.reduceSub, Nat.reduceLeDiff, sizeMax, sCons_eq, sRet_eq, sRetN_eq, sIf_eq, sAsg_eq, sExpr_eq, sNil_eq, put_nm, List.set_cons_succ, List.set_cons_zero, eVar_eq, eCon_eq, eOp1_eq, eOp2_eq, eOpN_eq, eCall_eq, eIf_eq, eAnd_eq, eNot_eq, eTup_eq, eLst_eq, aCons_eq, aNil_eq, tVal_eq, tAnd_eq, tOr_eq, tNot_eq, tYes_eq, onB_some, asBool_bool, List.getElem?_cons_succ, List.getElem?_cons_zero, R.bind_ok, R.of_some, R.then_ok, Out.seq_nx, Out.seq_rt, outR_rt, outR_nx, tidy_ok, cmp_int, eq_int, add_int, sub_int, gc_d, Bool.not_true, Bool.not_false, Bool.false_eq_true, if_false, l0__law_call, ex, eq_strs, c, decide_false, Bool.false_bne, e3, mkTup_d1, ea])
    (L := [some (.ref 1), some (.d (enProg fs opn)), some (W.str o.1), some (.d (.tuple [])), none, none]) (h := h1) ⟨[], _, rfl, b1, .refl, .nil⟩
  obtain ⟨zs, h3, e3, b3, x3, hz, hzz⟩ := drawn_ints (n := 4) (m := 7) (c := 3) (v := 5) (L := [some (.ref 1), some (.d (enProg fs opn)), some (W.str o.1), some (.d (.tuple ys)), y4, none]) b2 (by omega) (by omega) rfl (by omega)
  have hsq : iSeq (eOp2 opIx (eOp2 opIx (eOp2 opIx (eVar 1) (eCon (.int 1))) (eCall m__law_index (aCons (eVar 1) (aCons (eVar 2) aNil)))) (eCon (.int 2))) [some (.ref 1), some (.d (enProg fs opn)), some (W.str o.1), some (.d (.tuple [])), none, none] h1 = .ok (.tp (x.2.map fun q => W.d (enP q))) h1 := by
    rw [iSeq_eq]; simp only [fn, List.length_cons, List.length_nil, if_true, List.map_cons, List.map_nil, List.replicate, List.cons_append, List.nil_append, Nat.reduceAdd, Nat.reduceSub, Nat.reduceLeDiff, sizeMax, sCons_eq, sRet_eq, sRetN_eq, sIf_eq, sAsg_eq, sExpr_eq, sNil_eq, put_nm, List.set_cons_succ, List.set_cons_zero, eVar_eq, eCon_eq, eOp1_eq, eOp2_eq, eOpN_eq, eCall_eq, eIf_eq, eAnd_eq, eNot_eq, eTup_eq, eLst_eq, aCons_eq, aNil_eq, tVal_eq, tAnd_eq, tOr_eq, tNot_eq, tYes_eq, onB_some, asBool_bool, List.getElem?_cons_succ, List.getElem?_cons_zero, R.bind_ok, R.of_some, R.then_ok, Out.seq_nx, Out.seq_rt, outR_rt, outR_nx, tidy_ok, cmp_int, eq_int, add_int, sub_int, gc_d, Bool.not_true, Bool.not_false, Bool.false_eq_true, if_false, ep1, elx, exf, exp, W.items_d, List.map_map]; rfl
  have done : b__law_call [some (.ref 1), some (.d (enProg fs opn)), none, none, none, none] h = .rt (.d (.tuple [.str "call", .str o.1, .tuple ys, .tuple (zs.map PyData.int)])) h3 := by
    simp only [fn, List.length_cons, List.length_nil, if_true, List.map_cons, List.map_nil, List.replicate, List.cons_append, List.nil_append, Nat.reduceAdd, Nat.reduceSub, Nat.reduceLeDiff, sizeMax, sCons_eq, sRet_eq, sRetN_eq, sIf_eq, sAsg_eq, sExpr_eq, sNil_eq, put_nm, List.set_cons_succ, List.set_cons_zero, eVar_eq, eCon_eq, eOp1_eq, eOp2_eq, eOpN_eq, eCall_eq, eIf_eq, eAnd_eq, eNot_eq, eTup_eq, eLst_eq, aCons_eq, aNil_eq, tVal_eq, tAnd_eq, tOr_eq, tNot_eq, tYes_eq, onB_some, asBool_bool, List.getElem?_cons_succ, List.getElem?_cons_zero, R.bind_ok, R.of_some, R.then_ok, Out.seq_nx, Out.seq_rt, outR_rt, outR_nx, tidy_ok, cmp_int, eq_int, add_int, sub_int, gc_d, Bool.not_true, Bool.not_false, Bool.false_eq_true, if_false, b__law_call, ep2, e1, x0, mkTup_d0, sFor_eq, hsq, items_tp, e2, e3, mkTup_d4]
  obtain ⟨h4, e4, b4, x4⟩ := fn_d (n := 2) (k := 6) (body := b__law_call) (ws := [.ref 1, .d (enProg fs opn)]) rfl b b3 (x1.trans (x2.trans x3)) done
  exact ⟨o.1, x.2, ys, zs, h4, e4, b4, x4, by rw [← hxn]; exact hxm, List.mem_map.mpr ⟨o, ho, rfl⟩, hys, hz, hzz⟩
end
end Sp
end

section
/-! Sx21: a call is spoilt: its parts. -/
namespace Sp
open Mi Sem
open PySem (PyData Str)
section
variable {ds : List Int} {h h' H : Hh} {w u : W}
theorem allD_some : ∀ {ws : List W} {xs : List PyData}, allD ws = some xs → ws = xs.map W.d
  | [], xs, e => by simp [allD] at e; subst e; rfl
  | .d x :: r, xs, e => by
    simp only [allD, Option.map_eq_some_iff] at e
    obtain ⟨ys, e1, rfl⟩ := e
    rw [allD_some e1]; rfl
  | .ref _ :: _, xs, e => by simp [allD] at e
  | .mix _ :: _, xs, e => by simp [allD] at e
theorem mk_cases (ws : List W) : (∃ xs, ws = xs.map W.d ∧ mkTup ws = .d (.tuple xs)) ∨ mkTup ws = .mix ws := by
  cases e : allD ws with
  | none => right; simp [mkTup, e]
  | some xs => left; exact ⟨xs, allD_some e, by simp [mkTup, e]⟩
theorem items_mk (ws : List W) : (mkTup ws).items = some ws := by
  rcases mk_cases ws with ⟨xs, e1, e2⟩ | e
  · rw [e2, W.items_d, e1]
  · rw [e]; rfl
theorem ty_mk (ws : List W) : tyW H (mkTup ws) = some "tuple" := by
  rcases mk_cases ws with ⟨xs, e1, e2⟩ | e
  · rw [e2]; rfl
  · rw [e]; rfl
theorem unds_false {n : Nat} : ∀ {ws : List W}, u ∈ ws → u.und n = false → W.unds n ws = false
  | [], hu, _ => by simp at hu
  | x :: ws, hu, hf => by
    rcases List.mem_cons.mp hu with rfl | hu
    · simp [W.unds, hf]
    · simp [W.unds, unds_false hu hf]
theorem und_mk {n : Nat} {ws : List W} (hu : u ∈ ws) (hf : u.und n = false) : (mkTup ws).und n = false := by
  rcases mk_cases ws with ⟨xs, e1, e2⟩ | e
  · rw [e1] at hu
    obtain ⟨x, _, rfl⟩ := List.mem_map.mp hu
    simp at hf
  · rw [e]; simp [W.und, unds_false hu hf]
theorem add_mk {xs ys : List W} {M : Hh} (hl : xs.length + ys.length ≤ 16777216) : opAdd (mkTup xs) (mkTup ys) M = some (mkTup (xs ++ ys), M) := by
  have hx := items_mk xs
  have hy := items_mk ys
  have h2 : xs.length + ys.length ≤ sizeMax := hl
  rcases mk_cases xs with ⟨as, e1, e2⟩ | e <;> rcases mk_cases ys with ⟨bs, e3, e4⟩ | e' <;> simp_all [opAdd]
theorem sl_d {xs : List PyData} {lo hi : Option Int} {M : Hh} : opSl (.d (.tuple xs)) lo hi M = some (mkTup (cut (xs.map W.d) lo hi), M) := by simp [opSl]
theorem mem_cut {α : Type} {x : α} {xs : List α} {lo hi : Option Int} (m : x ∈ cut xs lo hi) : x ∈ xs := List.mem_of_mem_drop (List.mem_of_mem_take m)
theorem len_cut {α : Type} {xs : List α} {lo hi : Option Int} : (cut xs lo hi).length ≤ xs.length := by
  unfold cut; rw [List.length_take, List.length_drop]; omega
/-! ### things -/
abbrev Plain (x : PyData) : Prop := ∀ kvs, x ≠ .dict kvs
theorem ty_d {x : PyData} (hx : Plain x) : Ty H (.d x) := by
  cases x <;> first | exact ⟨_, rfl⟩ | exact absurd rfl (hx _)
theorem g0_d {x : PyData} (hx : Plain x) : G0 H (.d x) := ⟨ty_d hx, x, by simp⟩
theorem v1_atom (ht : Ty H w) (hi : w.items = none) : V1 H w := ⟨ht, fun ws e => by rw [hi] at e; cases e⟩
theorem v2_atom (ht : Ty H w) (hi : w.items = none) : V2 H w := ⟨ht, fun ws e => by rw [hi] at e; cases e⟩
theorem v0_atom (ht : Ty H w) (hi : w.items = none) : V0 H w := ⟨ht, fun ws e => (by rw [hi] at e; cases e), fun a b c d e => (by rw [hi] at e; cases e)⟩
theorem v1_tup {xs : List PyData} (hl : xs.length ≤ 1000) (hx : ∀ x ∈ xs, Plain x) : V1 H (.d (.tuple xs)) :=
  ⟨⟨_, rfl⟩, fun ws e => by
    simp at e; subst e
    exact ⟨by simpa using hl, fun u hu => by
      obtain ⟨x, hx', rfl⟩ := List.mem_map.mp hu
      exact g0_d (hx x hx')⟩⟩
theorem v2_mk {ws : List W} (hl : ws.length ≤ 1000) (hv : ∀ u ∈ ws, V1 H u) : V2 H (mkTup ws) :=
  ⟨⟨_, ty_mk ws⟩, fun vs e => by rw [items_mk] at e; cases e; exact ⟨hl, hv⟩⟩
theorem v0_short {ws : List W} (ht : Ty H w) (hi : w.items = some ws) (hl : ws.length ≤ 1000) (h4 : ws.length ≠ 4) : V0 H w :=
  ⟨ht, fun vs e => (by rw [hi] at e; cases e; exact hl), fun a b c d e => (by rw [hi] at e; cases e; exact absurd rfl h4)⟩
theorem v0_mk {a b c d : W} (ha : (∃ s, a = .d (.str s)) ∨ ∃ i, a = .d (.int i)) (hb : Ty H b ∧ ∀ s, b = .d (.str s) → s.length ≤ 1000) (hc : V2 H c) (hd : V1 H d) : V0 H (mkTup [a, b, c, d]) :=
  ⟨⟨_, ty_mk _⟩, fun vs e => (by rw [items_mk] at e; cases e; simp), fun a b c d e => (by rw [items_mk] at e; cases e; exact ⟨ha, hb, hc, hd⟩)⟩
/-- a thing, spoilt: it depends on no object, or on a new one -/
def VN (h h' : Hh) (w : W) : Prop := (∀ H, V0 H w) ∨ (V0 h' w ∧ w.und h.length = false)
theorem VN.gc (v : VN h h' w) : V0 (gc h w h') w := by
  rcases v with v | ⟨v, f⟩
  · exact v _
  · unfold Mi.gc
    rw [if_neg (fun c => by rw [f] at c; exact absurd c.1 (by simp))]
    exact v
theorem v1_arg {k : Str} {y : PyData} (a : ArgD k y) : V1 H (.d y) := by
  unfold ArgD at a
  split at a
  · obtain ⟨z, rfl, _⟩ := a
    exact v1_atom ⟨_, rfl⟩ rfl
  · obtain ⟨zs, rfl, hl, _⟩ := a
    exact v1_tup (by simp; omega) (fun x hx => by obtain ⟨z, _, rfl⟩ := List.mem_map.mp hx; intro kvs e; cases e)
theorem v1_ints {zs : List Int} (hl : zs.length ≤ 1000) : V1 H (.d (.tuple (zs.map PyData.int))) :=
  v1_tup (by simpa using hl) (fun x hx => by obtain ⟨z, _, rfl⟩ := List.mem_map.mp hx; intro kvs e; cases e)
theorem ty_lst {a : Nat} {ws : List W} (ha : H[a]? = some (.lst ws)) : Ty H (.ref a) := ⟨"list", by simp [tyW, ha]⟩
end
end Sp
end

section
/-! Sy21: a call is spoilt. -/
namespace Sp
open Mi Sem
open PySem (PyData Str)
section
variable {ds : List Int} {h h' H : Hh} {w u : W}
theorem pick_at {ar : EM} {L : Loc} {ws : List W} {T : Hh} (b : Bd ds h) (hL : L[0]? = some (some (.ref 1))) (e : ar L h = .ok (.ref (h ++ T).length) (h ++ T ++ [.lst ws])) (hne : ws ≠ []) :
    ∃ w h1, eCall m__law_pick (aCons (eVar 0) (aCons ar aNil)) L h = .ok w h1 ∧ Bd ds h1 ∧ Ex (h ++ T) h1 ∧ w ∈ ws := by
  have hb := b.len
  obtain ⟨w, h1, e1, b1, x1, hw⟩ := pick_lst (ds := ds) (h := h ++ T ++ [.lst ws]) (a := (h ++ T).length) (ws := ws) (by rw [List.append_assoc]; exact b.app) (by simp) (by simp; omega) hne
  exact ⟨w, h1, by simp only [eCall_eq, aCons_eq, eVar_eq, hL, R.bind_ok, e, aNil_eq, e1], b1, Ex.app.trans x1, hw⟩
theorem fn_v {n k : Nat} {body : SM} {ws : List W} (hn : ws.length = n) (b : Bd ds h) (b' : Bd ds h') (x' : Ex h h') (v : VN h h' w) (e : body (ws.map some ++ List.replicate (k - ws.length) none) h = .rt w h') : ∃ h'', fn n k body ws h = .ok w h'' ∧ Bd ds h'' ∧ Ex h h'' ∧ V0 h'' w := by
  obtain ⟨g1, g2, _⟩ := gc_bd (w := w) b b' x'
  refine ⟨gc h w h', ?_, g1, g2, v.gc⟩
  unfold fn
  rw [if_pos hn, e]
  rfl
/-- the odd things -/
abbrev OD (a : Nat) : List W := [.non, .bool true, .str "1", .d (.tuple []), .d (.tuple [.bool true]), .ref a, .d (.tuple [.int 1, .none]), .d (.tuple [.tuple [.int 1]]), .str "f", .int 5]
theorem od_ok {a : Nat} (hw : w ∈ OD a) : (∀ H, V1 H w) ∨ w = .ref a := by
  simp at hw
  rcases hw with rfl | rfl | rfl | rfl | rfl | rfl | rfl | rfl | rfl | rfl
  · exact .inl fun H => v1_atom ⟨_, rfl⟩ rfl
  · exact .inl fun H => v1_atom ⟨_, rfl⟩ rfl
  · exact .inl fun H => v1_atom ⟨_, rfl⟩ rfl
  · exact .inl fun H => v1_tup (by simp) (by simp [Plain])
  · exact .inl fun H => v1_tup (by simp) (by simp [Plain])
  · exact .inr rfl
  · exact .inl fun H => v1_tup (by simp) (by simp [Plain])
  · exact .inl fun H => v1_tup (by simp) (by simp [Plain])
  · exact .inl fun H => v1_atom ⟨_, rfl⟩ rfl
  · exact .inl fun H => v1_atom ⟨_, rfl⟩ rfl
theorem eP_odd {L : Loc} : (eLst (aCons (eCon .non) (aCons (eCon (.bool true)) (aCons (eCon (.str "1")) (aCons (eTup aNil) (aCons (eTup (aCons (eCon (.bool true)) aNil)) (aCons (eLst (aCons (eCon (.int 1)) aNil)) (aCons (eTup (aCons (eCon (.int 1)) (aCons (eCon .non) aNil))) (aCons (eTup (aCons (eTup (aCons (eCon (.int 1)) aNil)) aNil)) (aCons (eCon (.str "f")) (aCons (eCon (.int 5)) aNil))))))))))) L h = .ok (.ref (h ++ [O.lst [.int 1]]).length) (h ++ [O.lst [.int 1]] ++ [O.lst (OD h.length)]) := by
  simp only [fn, List.length_cons, List.length_nil, if_true, List.map_cons, List.map_nil, List.replicate, List.cons_append, List.nil_append, Nat.reduceAdd, Nat.reduceSub, Nat.reduceLeDiff, sizeMax, sCons_eq, sRet_eq, sRetN_eq, sIf_eq, sAsg_eq, sExpr_eq, sNil_eq, put_nm, List.set_cons_succ, List.set_cons_zero, eVar_eq, eCon_eq, eOp1_eq, eOp2_eq, eOpN_eq, eCall_eq, eIf_eq, eAnd_eq, eNot_eq, eTup_eq, eLst_eq, aCons_eq, aNil_eq, tVal_eq, tAnd_eq, tOr_eq, tNot_eq, tYes_eq, onB_some, asBool_bool, List.getElem?_cons_succ, List.getElem?_cons_zero, R.bind_ok, R.of_some, R.then_ok, Out.seq_nx, Out.seq_rt, outR_rt, outR_nx, tidy_ok, cmp_int, eq_int, add_int, sub_int, gc_d, Bool.not_true, Bool.not_false, Bool.false_eq_true, if_false, mkTup_d0, mkTup_d1, mkTup_d2]
  try rfl
abbrev CL (nm : Str) (ys : List PyData) (zs : List Int) : List PyData := [.str "call", .str nm, .tuple ys, .tuple (zs.map PyData.int)]
/-- what kind 0 may be -/
def K0 (nm : Str) (ys : List PyData) (zs : List Int) (a : Nat) : List W := [.non, .d (.tuple []), .d (.tuple [.str "call", .str nm, .tuple ys]), .d (.tuple [.str "call", .str nm, .tuple ys, .tuple (zs.map PyData.int), .int 0]), .ref a, .str "call", .d (.tuple [.str "calls", .str nm, .tuple ys, .tuple (zs.map PyData.int)]), .d (.tuple [.int 0, .str nm, .tuple ys, .tuple (zs.map PyData.int)])]
theorem eP0 {L : Loc} {nm : Str} {ys : List PyData} {zs : List Int} (hL : L[1]? = some (some (.d (.tuple (CL nm ys zs))))) : (eLst (aCons (eCon .non) (aCons (eTup aNil) (aCons (eSl opSl (eVar 1) pNone (pSome (eCon (.int 3)))) (aCons (eOp2 opAdd (eVar 1) (eTup (aCons (eCon (.int 0)) aNil))) (aCons (eOpN bList (aCons (eVar 1) aNil)) (aCons (eCon (.str "call")) (aCons (eOp2 opAdd (eTup (aCons (eCon (.str "calls")) aNil)) (eSl opSl (eVar 1) (pSome (eCon (.int 1))) pNone)) (aCons (eOp2 opAdd (eTup (aCons (eCon (.int 0)) aNil)) (eSl opSl (eVar 1) (pSome (eCon (.int 1))) pNone)) aNil))))))))) L h = .ok (.ref (h ++ [O.lst ((CL nm ys zs).map W.d)]).length) (h ++ [O.lst ((CL nm ys zs).map W.d)] ++ [O.lst (K0 nm ys zs h.length)]) := by
  have s1 : ∀ M : Hh, opSl (.d (.tuple (CL nm ys zs))) none (some 3) M = some (.d (.tuple [.str "call", .str nm, .tuple ys]), M) := fun M => rfl
  have s2 : ∀ M : Hh, opSl (.d (.tuple (CL nm ys zs))) (some 1) none M = some (.d (.tuple [.str nm, .tuple ys, .tuple (zs.map PyData.int)]), M) := fun M => rfl
  have a1 : opAdd (.d (.tuple (CL nm ys zs))) (.d (.tuple [.int 0])) h = some (.d (.tuple (CL nm ys zs ++ [.int 0])), h) := add_tup (by simp)
  have a2 : ∀ (x : PyData) (M : Hh), opAdd (.d (.tuple [x])) (.d (.tuple [.str nm, .tuple ys, .tuple (zs.map PyData.int)])) M = some (.d (.tuple ([x] ++ [.str nm, .tuple ys, .tuple (zs.map PyData.int)])), M) := fun x M => add_tup (by simp)
  have l1 : bList [.d (.tuple (CL nm ys zs))] h = some (.ref h.length, h ++ [O.lst ((CL nm ys zs).map W.d)]) := rfl
  simp only [fn, List.length_cons, List.length_nil, if_true, List.map_cons, List.map_nil, List.replicate, List.cons_append, List.nil_append, Nat.reduceAdd, Nat.reduceSub, Nat.reduceLeDiff, sizeMax, sCons_eq, sRet_eq, sRetN_eq, sIf_eq, sAsg_eq, sExpr_eq, sNil_eq, put_nm, List.set_cons_succ, List.set_cons_zero, eVar_eq, eCon_eq, eOp1_eq, eOp2_eq, eOpN_eq, eCall_eq, eIf_eq, eAnd_eq, eNot_eq, eTup_eq, eLst_eq, aCons_eq, aNil_eq, tVal_eq, tAnd_eq, tOr_eq, tNot_eq, tYes_eq, onB_some, asBool_bool, List.getElem?_cons_succ, List.getElem?_cons_zero, R.bind_ok, R.of_some, R.then_ok, Out.seq_nx, Out.seq_rt, outR_rt, outR_nx, tidy_ok, cmp_int, eq_int, add_int, sub_int, gc_d, Bool.not_true, Bool.not_false, Bool.false_eq_true, if_false, hL, mkTup_d0, mkTup_d1, eSl_eq, pNone_eq, pSome_eq, s1, s2, a1, a2, l1]
  try rfl
theorem k0_ok {nm : Str} {ys : List PyData} {zs : List Int} {a : Nat} {ws : List W} (hnm : nm.length ≤ 1000) (hyl : ys.length ≤ 5) (hy : ∀ y ∈ ys, ∃ k, ArgD k y) (hz : zs.length ≤ 5) (hw : w ∈ K0 nm ys zs a) (ha : h.length ≤ a) (hat : h'[a]? = some (.lst ws)) : VN h h' w := by
  have four : ∀ (x : PyData), ((∃ s, x = .str s) ∨ ∃ i, x = .int i) → VN h h' (.d (.tuple [x, .str nm, .tuple ys, .tuple (zs.map PyData.int)])) := fun x hx => .inl fun H => by
    have := v0_mk (H := H) (a := .d x) (b := .str nm) (c := mkTup (ys.map W.d)) (d := .d (.tuple (zs.map PyData.int))) (by rcases hx with ⟨s, rfl⟩ | ⟨i, rfl⟩; exact .inl ⟨_, rfl⟩; exact .inr ⟨_, rfl⟩) ⟨⟨_, rfl⟩, fun s e => by cases e; exact hnm⟩ (v2_mk (by simp; omega) (fun u hu => by
        obtain ⟨y, hy', rfl⟩ := List.mem_map.mp hu
        obtain ⟨k, a⟩ := hy y hy'
        exact v1_arg a)) (v1_ints (by omega))
    rw [mkTup_map, mkTup_d4] at this
    exact this
  simp [K0] at hw
  rcases hw with rfl | rfl | rfl | rfl | rfl | rfl | rfl | rfl
  · exact .inl fun H => v0_atom ⟨_, rfl⟩ rfl
  · exact .inl fun H => v0_short ⟨_, rfl⟩ rfl (by simp) (by simp)
  · exact .inl fun H => v0_short ⟨_, rfl⟩ rfl (by simp) (by simp)
  · exact .inl fun H => v0_short ⟨_, rfl⟩ rfl (by simp) (by simp)
  · exact .inr ⟨v0_atom (ty_lst hat) rfl, by simp; omega⟩
  · exact .inl fun H => v0_atom ⟨_, rfl⟩ rfl
  · exact four _ (.inl ⟨_, rfl⟩)
  · exact four _ (.inr ⟨_, rfl⟩)
def K1 : List W := [.str "nobody", .str "f", .str "g", .non, .int 0, .d (.tuple [.str "f"])]
theorem eP1 {L : Loc} : (eLst (aCons (eCon (.str "nobody")) (aCons (eCon (.str "f")) (aCons (eCon (.str "g")) (aCons (eCon .non) (aCons (eCon (.int 0)) (aCons (eTup (aCons (eCon (.str "f")) aNil)) aNil))))))) L h = .ok (.ref (h ++ []).length) (h ++ [] ++ [O.lst K1]) := by
  rw [List.append_nil]
  simp only [fn, List.length_cons, List.length_nil, if_true, List.map_cons, List.map_nil, List.replicate, List.cons_append, List.nil_append, Nat.reduceAdd, Nat.reduceSub, Nat.reduceLeDiff, sizeMax, sCons_eq, sRet_eq, sRetN_eq, sIf_eq, sAsg_eq, sExpr_eq, sNil_eq, put_nm, List.set_cons_succ, List.set_cons_zero, eVar_eq, eCon_eq, eOp1_eq, eOp2_eq, eOpN_eq, eCall_eq, eIf_eq, eAnd_eq, eNot_eq, eTup_eq, eLst_eq, aCons_eq, aNil_eq, tVal_eq, tAnd_eq, tOr_eq, tNot_eq, tYes_eq, onB_some, asBool_bool, List.getElem?_cons_succ, List.getElem?_cons_zero, R.bind_ok, R.of_some, R.then_ok, Out.seq_nx, Out.seq_rt, outR_rt, outR_nx, tidy_ok, cmp_int, eq_int, add_int, sub_int, gc_d, Bool.not_true, Bool.not_false, Bool.false_eq_true, if_false, mkTup_d1]
  try rfl
theorem k1_ok (hw : w ∈ K1) : Ty H w ∧ ∀ s, w = .d (.str s) → s.length ≤ 1000 := by
  have c : ∀ w ∈ K1, (match w with | .d (.str s) => decide (s.length ≤ 1000) | _ => true) = true := by
    intro w hw
    have : (K1.all fun w => (match w with | .d (.str s) => decide (s.length ≤ 1000) | _ => true)) = true := by decide +kernel
    exact List.all_eq_true.mp this w hw
  refine ⟨?_, fun s e => ?_⟩
  · simp [K1] at hw
    rcases hw with rfl | rfl | rfl | rfl | rfl | rfl <;> exact ⟨_, rfl⟩
  · have := c w hw
    rw [e] at this
    exact of_decide_eq_true this
def K4 (ys : List PyData) (a : Nat) : List W := [.non, .ref a, .d (.tuple (ys ++ [.int 0]))]
theorem eP4 {L : Loc} {ys : List PyData} (hl : ys.length ≤ 5) (hL : L[4]? = some (some (.d (.tuple ys)))) : (eLst (aCons (eCon .non) (aCons (eOpN bList (aCons (eVar 4) aNil)) (aCons (eOp2 opAdd (eVar 4) (eTup (aCons (eCon (.int 0)) aNil))) aNil)))) L h = .ok (.ref (h ++ [O.lst (ys.map W.d)]).length) (h ++ [O.lst (ys.map W.d)] ++ [O.lst (K4 ys h.length)]) := by
  have a1 : ∀ M : Hh, opAdd (.d (.tuple ys)) (.d (.tuple [.int 0])) M = some (.d (.tuple (ys ++ [.int 0])), M) := fun M => add_tup (by simp; omega)
  have l1 : bList [.d (.tuple ys)] h = some (.ref h.length, h ++ [O.lst (ys.map W.d)]) := rfl
  simp only [fn, List.length_cons, List.length_nil, if_true, List.map_cons, List.map_nil, List.replicate, List.cons_append, List.nil_append, Nat.reduceAdd, Nat.reduceSub, Nat.reduceLeDiff, sizeMax, sCons_eq, sRet_eq, sRetN_eq, sIf_eq, sAsg_eq, sExpr_eq, sNil_eq, put_nm, List.set_cons_succ, List.set_cons_zero, eVar_eq, eCon_eq, eOp1_eq, eOp2_eq, eOpN_eq, eCall_eq, eIf_eq, eAnd_eq, eNot_eq, eTup_eq, eLst_eq, aCons_eq, aNil_eq, tVal_eq, tAnd_eq, tOr_eq, tNot_eq, tYes_eq, onB_some, asBool_bool, List.getElem?_cons_succ, List.getElem?_cons_zero, R.bind_ok, R.of_some, R.then_ok, Out.seq_nx, Out.seq_rt, outR_rt, outR_nx, tidy_ok, cmp_int, eq_int, add_int, sub_int, gc_d, Bool.not_true, Bool.not_false, Bool.false_eq_true, if_false, hL, mkTup_d1, a1, l1]
  try rfl
def K5 (a : Nat) : List W := [.non, .ref a, .d (.tuple [.bool true]), .d (.tuple [.str "1"]), .int 3, .d (.tuple [.int 1, .tuple [.int 2]])]
theorem eP5 {L : Loc} : (eLst (aCons (eCon .non) (aCons (eLst aNil) (aCons (eTup (aCons (eCon (.bool true)) aNil)) (aCons (eTup (aCons (eCon (.str "1")) aNil)) (aCons (eCon (.int 3)) (aCons (eTup (aCons (eCon (.int 1)) (aCons (eTup (aCons (eCon (.int 2)) aNil)) aNil))) aNil))))))) L h = .ok (.ref (h ++ [O.lst []]).length) (h ++ [O.lst []] ++ [O.lst (K5 h.length)]) := by
  simp only [fn, List.length_cons, List.length_nil, if_true, List.map_cons, List.map_nil, List.replicate, List.cons_append, List.nil_append, Nat.reduceAdd, Nat.reduceSub, Nat.reduceLeDiff, sizeMax, sCons_eq, sRet_eq, sRetN_eq, sIf_eq, sAsg_eq, sExpr_eq, sNil_eq, put_nm, List.set_cons_succ, List.set_cons_zero, eVar_eq, eCon_eq, eOp1_eq, eOp2_eq, eOpN_eq, eCall_eq, eIf_eq, eAnd_eq, eNot_eq, eTup_eq, eLst_eq, aCons_eq, aNil_eq, tVal_eq, tAnd_eq, tOr_eq, tNot_eq, tYes_eq, onB_some, asBool_bool, List.getElem?_cons_succ, List.getElem?_cons_zero, R.bind_ok, R.of_some, R.then_ok, Out.seq_nx, Out.seq_rt, outR_rt, outR_nx, tidy_ok, cmp_int, eq_int, add_int, sub_int, gc_d, Bool.not_true, Bool.not_false, Bool.false_eq_true, if_false, mkTup_d1, mkTup_d2, Nat.zero_le]
  try rfl
theorem spoilt_ok {nm : Str} {ys : List PyData} {zs : List Int} (b : Bd ds h) (hnm : nm.length ≤ 1000) (hyl : ys.length ≤ 5) (hy : ∀ y ∈ ys, ∃ k, ArgD k y) (hz : zs.length ≤ 5) :
    ∃ w h', m__law_spoilt [.ref 1, .d (.tuple (CL nm ys zs))] h = .ok w h' ∧ Bd ds h' ∧ Ex h h' ∧ V0 h' w := by
  have hb := b.len
  obtain ⟨odd, h1, e1, b1, x1, hodd⟩ := pick_at (ds := ds) (L := [some (.ref 1), some (.d (.tuple (CL nm ys zs))), some (.str "call"), some (.str nm), some (.d (.tuple ys)), some (.d (.tuple (zs.map PyData.int))), none, none, none]) b rfl eP_odd (by exact List.cons_ne_nil _ _)
  obtain ⟨kd, h2, e2, b2, x2, k0, k1⟩ := draw (many := 9) b1 (by omega)
  obtain ⟨pl, h3, e3, b3, x3, p0, p1⟩ := draw (many := ((ys.length : Nat) : Int) + 1) b2 (by omega)
  have x03 : Ex (h ++ [.lst [.int 1]]) h3 := x1.trans (x2.trans x3)
  have xh3 : Ex h h3 := Ex.app.trans x03
  have hl3 := x03.1
  simp at hl3
  have hat3 : h3[h.length]? = some (.lst [.int 1]) := x03.2 _ _ (by omega) (by simp)
  have hvo : (∀ H, V1 H odd) ∨ odd = .ref h.length := od_ok hodd
  have hv3 : V1 h3 odd := by
    rcases hvo with v | rfl
    · exact v _
    · exact v1_atom (ty_lst hat3) rfl
  have ely : bLen [.d (.tuple ys)] h2 = some (.int ((ys.length : Nat) : Int), h2) := by simp [bLen]
  obtain ⟨L3, eL3⟩ : ∃ L3 : Loc, L3 = [some (.ref 1), some (.d (.tuple (CL nm ys zs))), some (.str "call"), some (.str nm), some (.d (.tuple ys)), some (.d (.tuple (zs.map PyData.int))), some odd, some (.int kd), some (.int pl)] := ⟨_, rfl⟩
  have hL0 : L3[0]? = some (some (.ref 1)) := by rw [eL3]; rfl
  have pre : ∀ rest : SM, (sCons (sAsg (.tp [2, 3, 4, 5]) (eVar 1))
  (sCons (sAsg (.nm 6) (eCall m__law_pick (aCons (eVar 0) (aCons (eLst (aCons (eCon .non) (aCons (eCon (.bool true)) (aCons (eCon (.str "1")) (aCons (eTup aNil) (aCons (eTup (aCons (eCon (.bool true)) aNil)) (aCons (eLst (aCons (eCon (.int 1)) aNil)) (aCons (eTup (aCons (eCon (.int 1)) (aCons (eCon .non) aNil))) (aCons (eTup (aCons (eTup (aCons (eCon (.int 1)) aNil)) aNil)) (aCons (eCon (.str "f")) (aCons (eCon (.int 5)) aNil))))))))))) aNil))))
  (sCons (sAsg (.nm 7) (eCall m__law_draw (aCons (eVar 0) (aCons (eCon (.int 9)) aNil))))
  (sCons (sAsg (.nm 8) (eCall m__law_draw (aCons (eVar 0) (aCons (eOp2 opAdd (eOpN bLen (aCons (eVar 4) aNil)) (eCon (.int 1))) aNil)))) rest)))) [some (.ref 1), some (.d (.tuple (CL nm ys zs))), none, none, none, none, none, none, none] h = rest L3 h3 := fun rest => by
    have hp : (Tg.tp [2, 3, 4, 5]).put (.d (.tuple (CL nm ys zs))) [some (.ref 1), some (.d (.tuple (CL nm ys zs))), none, none, none, none, none, none, none] = some [some (.ref 1), some (.d (.tuple (CL nm ys zs))), some (.str "call"), some (.str nm), some (.d (.tuple ys)), some (.d (.tuple (zs.map PyData.int))), none, none, none] := rfl
    simp only [sCons_eq, sAsg_eq, eVar_eq, List.getElem?_cons_succ, List.getElem?_cons_zero, R.then_ok, hp, Out.seq_nx, e1, put_nm, List.set_cons_succ, List.set_cons_zero]
    simp only [sCons_eq, sAsg_eq, put_nm, eCall_eq, aCons_eq, eVar_eq, List.getElem?_cons_succ, List.getElem?_cons_zero, R.bind_ok, eCon_eq, aNil_eq, e2, R.then_ok, Out.seq_nx, List.set_cons_succ, List.set_cons_zero, eOp2_eq, eOpN_eq, ely, R.of_some, add_int, e3]
    rw [eL3]
  have done : ∃ w h5, b__law_spoilt [some (.ref 1), some (.d (.tuple (CL nm ys zs))), none, none, none, none, none, none, none] h = .rt w h5 ∧ Bd ds h5 ∧ Ex h h5 ∧ VN h h5 w := by
    unfold b__law_spoilt
    rw [pre]
    have vcall : ∀ H, V0 H (.d (.tuple (CL nm ys zs))) := fun H => by
      have := v0_mk (H := H) (a := .str "call") (b := .str nm) (c := mkTup (ys.map W.d)) (d := .d (.tuple (zs.map PyData.int))) (.inl ⟨_, rfl⟩) ⟨⟨_, rfl⟩, fun s e => by cases e; exact hnm⟩ (v2_mk (by simp; omega) (fun u hu => by
        obtain ⟨y, hy', rfl⟩ := List.mem_map.mp hu
        obtain ⟨k, a⟩ := hy y hy'
        exact v1_arg a)) (v1_ints (by omega))
      rw [mkTup_map, mkTup_d4] at this
      exact this
    have hvy : ∀ H, ∀ u ∈ ys.map W.d, V1 H u := fun H u hu => by
      obtain ⟨y, hy', rfl⟩ := List.mem_map.mp hu
      obtain ⟨k, a⟩ := hy y hy'
      exact v1_arg a
    have hk : kd = 0 ∨ kd = 1 ∨ kd = 2 ∨ kd = 3 ∨ kd = 4 ∨ kd = 5 ∨ kd = 6 ∨ kd = 7 ∨ kd = 8 := by omega
    rcases hk with rfl | rfl | rfl | rfl | rfl | rfl | hk
    · obtain ⟨w, h4, e4, b4, x4, hw⟩ := pick_at (ds := ds) (T := [.lst ((CL nm ys zs).map W.d)]) (ws := K0 nm ys zs h3.length) b3 hL0 (eP0 (L := L3) (by rw [eL3]; rfl)) (List.cons_ne_nil _ _)
      have hat4 := x4.2 h3.length (.lst ((CL nm ys zs).map W.d)) (by omega) (by simp)
      refine ⟨w, h4, ?_, b4, xh3.trans (Ex.app.trans x4), k0_ok hnm hyl hy hz hw (by omega) hat4⟩
      rw [sCons_eq, sIf_eq, tVal_eq, eOp2_eq, eVar_eq, show L3[7]? = some (some (.int 0)) from by rw [eL3]; rfl]
      simp only [R.bind_ok, eCon_eq, eq_int, R.of_some, asBool_bool, beq_self_eq_true, Bool.false_bne, R.then_ok, if_true]
      rw [sCons_eq, sRet_eq, e4]
      rfl
    · obtain ⟨w, h4, e4, b4, x4, hw⟩ := pick_at (ds := ds) (T := []) (ws := K1) b3 hL0 (eP1 (L := L3)) (List.cons_ne_nil _ _)
      have hv : ∀ H, V0 H (mkTup [.str "call", w, mkTup (ys.map W.d), .d (.tuple (zs.map PyData.int))]) := fun H => v0_mk (.inl ⟨_, rfl⟩) (k1_ok hw) (v2_mk (by simp; omega) (hvy H)) (v1_ints (by omega))
      refine ⟨_, h4, ?_, b4, xh3.trans (Ex.app.trans x4), .inl hv⟩
      rw [mkTup_map]
      simp only [eCall_eq, aCons_eq, eVar_eq, hL0, R.bind_ok, eP1, aNil_eq, List.append_nil, K1] at e4
      rw [eL3]
      simp only [fn, List.length_cons, List.length_nil, if_true, List.map_cons, List.map_nil, List.replicate, List.cons_append, List.nil_append, Nat.reduceAdd, Nat.reduceSub, Nat.reduceLeDiff, sizeMax, sCons_eq, sRet_eq, sRetN_eq, sIf_eq, sAsg_eq, sExpr_eq, sNil_eq, put_nm, List.set_cons_succ, List.set_cons_zero, eVar_eq, eCon_eq, eOp1_eq, eOp2_eq, eOpN_eq, eCall_eq, eIf_eq, eAnd_eq, eNot_eq, eTup_eq, eLst_eq, aCons_eq, aNil_eq, tVal_eq, tAnd_eq, tOr_eq, tNot_eq, tYes_eq, onB_some, asBool_bool, List.getElem?_cons_succ, List.getElem?_cons_zero, R.bind_ok, R.of_some, R.then_ok, Out.seq_nx, Out.seq_rt, outR_rt, outR_nx, tidy_ok, cmp_int, eq_int, add_int, sub_int, gc_d, Bool.not_true, Bool.not_false, Bool.false_eq_true, if_false, Int.reduceBEq, Bool.false_bne, mkTup_d1, e4]
    · have hv : ∀ H, V0 H (mkTup [.str "call", .str nm, mkTup (cut (ys.map W.d) none (some pl) ++ cut (ys.map W.d) (some (pl + 1)) none), .d (.tuple (zs.map PyData.int))]) := fun H => v0_mk (.inl ⟨_, rfl⟩) ⟨⟨_, rfl⟩, fun s e => by cases e; exact hnm⟩ (v2_mk (by
        have l1 := len_cut (xs := ys.map W.d) (lo := none) (hi := some pl)
        have l2 := len_cut (xs := ys.map W.d) (lo := some (pl + 1)) (hi := none)
        simp at l1 l2 ⊢; omega) (fun u hu => by
          rcases List.mem_append.mp hu with hu | hu
          · exact hvy H u (mem_cut hu)
          · exact hvy H u (mem_cut hu))) (v1_ints (by omega))
      have l1 := len_cut (xs := ys.map W.d) (lo := none) (hi := some pl)
      have l2 := len_cut (xs := ys.map W.d) (lo := some (pl + 1)) (hi := none)
      simp at l1 l2
      refine ⟨_, h3, ?_, b3, xh3, .inl hv⟩
      have ea := add_mk (xs := cut (ys.map W.d) none (some pl)) (ys := cut (ys.map W.d) (some (pl + 1)) none) (M := h3) (by omega)
      rw [eL3]
      simp only [fn, List.length_cons, List.length_nil, if_true, List.map_cons, List.map_nil, List.replicate, List.cons_append, List.nil_append, Nat.reduceAdd, Nat.reduceSub, Nat.reduceLeDiff, sizeMax, sCons_eq, sRet_eq, sRetN_eq, sIf_eq, sAsg_eq, sExpr_eq, sNil_eq, put_nm, List.set_cons_succ, List.set_cons_zero, eVar_eq, eCon_eq, eOp1_eq, eOp2_eq, eOpN_eq, eCall_eq, eIf_eq, eAnd_eq, eNot_eq, eTup_eq, eLst_eq, aCons_eq, aNil_eq, tVal_eq, tAnd_eq, tOr_eq, tNot_eq, tYes_eq, onB_some, asBool_bool, List.getElem?_cons_succ, List.getElem?_cons_zero, R.bind_ok, R.of_some, R.then_ok, Out.seq_nx, Out.seq_rt, outR_rt, outR_nx, tidy_ok, cmp_int, eq_int, add_int, sub_int, gc_d, Bool.not_true, Bool.not_false, Bool.false_eq_true, if_false, Int.reduceBEq, Bool.false_bne, eSl_eq, pNone_eq, pSome_eq, sl_d, ea]
    · have l1 := len_cut (xs := ys.map W.d) (lo := none) (hi := some pl)
      have l2 := len_cut (xs := ys.map W.d) (lo := some (pl + 1)) (hi := none)
      simp at l1 l2
      have hc : ∀ H, V1 H odd → V0 H (mkTup [.str "call", .str nm, mkTup (cut (ys.map W.d) none (some pl) ++ [odd] ++ cut (ys.map W.d) (some (pl + 1)) none), .d (.tuple (zs.map PyData.int))]) := fun H v => v0_mk (.inl ⟨_, rfl⟩) ⟨⟨_, rfl⟩, fun s e => by cases e; exact hnm⟩ (v2_mk (by simp; omega) (fun u hu => by
          rcases List.mem_append.mp hu with hu | hu
          · rcases List.mem_append.mp hu with hu | hu
            · exact hvy H u (mem_cut hu)
            · simp at hu; subst hu; exact v
          · exact hvy H u (mem_cut hu))) (v1_ints (by omega))
      refine ⟨mkTup [.str "call", .str nm, mkTup (cut (ys.map W.d) none (some pl) ++ [odd] ++ cut (ys.map W.d) (some (pl + 1)) none), .d (.tuple (zs.map PyData.int))], h3, ?_, b3, xh3, ?_⟩
      case refine_2 =>
        rcases hvo with v | z
        · exact .inl fun H => hc H (v H)
        · exact .inr ⟨hc h3 hv3, und_mk (u := mkTup (cut (ys.map W.d) none (some pl) ++ [odd] ++ cut (ys.map W.d) (some (pl + 1)) none)) (by simp) (und_mk (u := odd) (by simp) (by rw [z]; simp))⟩
      have ea := add_mk (xs := cut (ys.map W.d) none (some pl)) (ys := [odd]) (M := h3) (by simp; omega)
      have eb := add_mk (xs := cut (ys.map W.d) none (some pl) ++ [odd]) (ys := cut (ys.map W.d) (some (pl + 1)) none) (M := h3) (by simp; omega)
      rw [eL3]
      simp only [fn, List.length_cons, List.length_nil, if_true, List.map_cons, List.map_nil, List.replicate, List.cons_append, List.nil_append, Nat.reduceAdd, Nat.reduceSub, Nat.reduceLeDiff, sizeMax, sCons_eq, sRet_eq, sRetN_eq, sIf_eq, sAsg_eq, sExpr_eq, sNil_eq, put_nm, List.set_cons_succ, List.set_cons_zero, eVar_eq, eCon_eq, eOp1_eq, eOp2_eq, eOpN_eq, eCall_eq, eIf_eq, eAnd_eq, eNot_eq, eTup_eq, eLst_eq, aCons_eq, aNil_eq, tVal_eq, tAnd_eq, tOr_eq, tNot_eq, tYes_eq, onB_some, asBool_bool, List.getElem?_cons_succ, List.getElem?_cons_zero, R.bind_ok, R.of_some, R.then_ok, Out.seq_nx, Out.seq_rt, outR_rt, outR_nx, tidy_ok, cmp_int, eq_int, add_int, sub_int, gc_d, Bool.not_true, Bool.not_false, Bool.false_eq_true, if_false, Int.reduceBEq, Bool.false_bne, eSl_eq, pNone_eq, pSome_eq, sl_d, ea, eb]
    · obtain ⟨w, h4, e4, b4, x4, hw⟩ := pick_at (ds := ds) (T := [.lst (ys.map W.d)]) (ws := K4 ys h3.length) b3 hL0 (eP4 (L := L3) hyl (by rw [eL3]; rfl)) (List.cons_ne_nil _ _)
      have hat4 := x4.2 h3.length (.lst (ys.map W.d)) (by omega) (by simp)
      have hc : ∀ H, V2 H w → V0 H (mkTup [.str "call", .str nm, w, .d (.tuple (zs.map PyData.int))]) := fun H v => v0_mk (.inl ⟨_, rfl⟩) ⟨⟨_, rfl⟩, fun s e => by cases e; exact hnm⟩ v (v1_ints (by omega))
      refine ⟨mkTup [.str "call", .str nm, w, .d (.tuple (zs.map PyData.int))], h4, ?_, b4, xh3.trans (Ex.app.trans x4), ?_⟩
      case refine_2 =>
        simp [K4] at hw
        rcases hw with rfl | rfl | rfl
        · exact .inl fun H => hc H (v2_atom ⟨_, rfl⟩ rfl)
        · exact .inr ⟨hc h4 (v2_atom (ty_lst hat4) rfl), und_mk (u := .ref h3.length) (by simp) (by simp; omega)⟩
        · refine .inl fun H => hc H ?_
          have := v2_mk (H := H) (ws := (ys ++ [PyData.int 0]).map W.d) (by simp; omega) (fun u hu => by
            rw [List.map_append] at hu
            rcases List.mem_append.mp hu with hu | hu
            · exact hvy H u hu
            · simp at hu; subst hu; exact v1_atom ⟨_, rfl⟩ rfl)
          rw [mkTup_map] at this
          exact this
      simp only [eCall_eq, aCons_eq, eVar_eq, hL0, R.bind_ok, eP4 (L := L3) hyl (by rw [eL3]; rfl), aNil_eq, K4] at e4
      have a1 : ∀ M : Hh, opAdd (.d (.tuple ys)) (.d (.tuple [.int 0])) M = some (.d (.tuple (ys ++ [.int 0])), M) := fun M => add_tup (by simp; omega)
      have l1 : bList [.d (.tuple ys)] h3 = some (.ref h3.length, h3 ++ [O.lst (ys.map W.d)]) := rfl
      rw [eL3]
      simp only [fn, List.length_cons, List.length_nil, if_true, List.map_cons, List.map_nil, List.replicate, List.cons_append, List.nil_append, Nat.reduceAdd, Nat.reduceSub, Nat.reduceLeDiff, sizeMax, sCons_eq, sRet_eq, sRetN_eq, sIf_eq, sAsg_eq, sExpr_eq, sNil_eq, put_nm, List.set_cons_succ, List.set_cons_zero, eVar_eq, eCon_eq, eOp1_eq, eOp2_eq, eOpN_eq, eCall_eq, eIf_eq, eAnd_eq, eNot_eq, eTup_eq, eLst_eq, aCons_eq, aNil_eq, tVal_eq, tAnd_eq, tOr_eq, tNot_eq, tYes_eq, onB_some, asBool_bool, List.getElem?_cons_succ, List.getElem?_cons_zero, R.bind_ok, R.of_some, R.then_ok, Out.seq_nx, Out.seq_rt, outR_rt, outR_nx, tidy_ok, cmp_int, eq_int, add_int, sub_int, gc_d, Bool.not_true, Bool.not_false, Bool.false_eq_true, if_false, Int.reduceBEq, Bool.false_bne, mkTup_d1, l1, a1, e4]
    · obtain ⟨w, h4, e4, b4, x4, hw⟩ := pick_at (ds := ds) (T := [.lst []]) (ws := K5 h3.length) b3 hL0 (eP5 (L := L3)) (List.cons_ne_nil _ _)
      have hat4 := x4.2 h3.length (.lst []) (by omega) (by simp)
      have hc : ∀ H, V1 H w → V0 H (mkTup [.str "call", .str nm, mkTup (ys.map W.d), w]) := fun H v => v0_mk (.inl ⟨_, rfl⟩) ⟨⟨_, rfl⟩, fun s e => by cases e; exact hnm⟩ (v2_mk (by simp; omega) (hvy H)) v
      refine ⟨mkTup [.str "call", .str nm, mkTup (ys.map W.d), w], h4, ?_, b4, xh3.trans (Ex.app.trans x4), ?_⟩
      case refine_2 =>
        simp [K5] at hw
        rcases hw with rfl | rfl | rfl | rfl | rfl | rfl
        · exact .inl fun H => hc H (v1_atom ⟨_, rfl⟩ rfl)
        · exact .inr ⟨hc h4 (v1_atom (ty_lst hat4) rfl), und_mk (u := .ref h3.length) (by simp) (by simp; omega)⟩
        · exact .inl fun H => hc H (v1_tup (by simp) (by simp [Plain]))
        · exact .inl fun H => hc H (v1_tup (by simp) (by simp [Plain]))
        · exact .inl fun H => hc H (v1_atom ⟨_, rfl⟩ rfl)
        · exact .inl fun H => hc H (v1_tup (by simp) (by simp [Plain]))
      rw [mkTup_map]
      simp only [eCall_eq, aCons_eq, eVar_eq, hL0, R.bind_ok, eP5, aNil_eq, K5] at e4
      rw [eL3]
      simp only [fn, List.length_cons, List.length_nil, if_true, List.map_cons, List.map_nil, List.replicate, List.cons_append, List.nil_append, Nat.reduceAdd, Nat.reduceSub, Nat.reduceLeDiff, sizeMax, sCons_eq, sRet_eq, sRetN_eq, sIf_eq, sAsg_eq, sExpr_eq, sNil_eq, put_nm, List.set_cons_succ, List.set_cons_zero, eVar_eq, eCon_eq, eOp1_eq, eOp2_eq, eOpN_eq, eCall_eq, eIf_eq, eAnd_eq, eNot_eq, eTup_eq, eLst_eq, aCons_eq, aNil_eq, tVal_eq, tAnd_eq, tOr_eq, tNot_eq, tYes_eq, onB_some, asBool_bool, List.getElem?_cons_succ, List.getElem?_cons_zero, R.bind_ok, R.of_some, R.then_ok, Out.seq_nx, Out.seq_rt, outR_rt, outR_nx, tidy_ok, cmp_int, eq_int, add_int, sub_int, gc_d, Bool.not_true, Bool.not_false, Bool.false_eq_true, if_false, Int.reduceBEq, Bool.false_bne, mkTup_d1, mkTup_d2, Nat.zero_le, e4]
    · refine ⟨.d (.tuple (CL nm ys zs)), h3, ?_, b3, xh3, .inl vcall⟩
      rcases hk with rfl | rfl | rfl <;> (rw [eL3]; simp only [fn, List.length_cons, List.length_nil, if_true, List.map_cons, List.map_nil, List.replicate, List.cons_append, List.nil_append, Nat.reduceAdd, Nat.reduceSub, Nat.reduceLeDiff, sizeMax, sCons_eq, sRet_eq, sRetN_eq, sIf_eq, sAsg_eq, sExpr_eq, sNil_eq, put_nm, List.set_cons_succ, List.set_cons_zero, eVar_eq, eCon_eq, eOp1_eq, eOp2_eq, eOpN_eq, eCall_eq, eIf_eq, eAnd_eq, eNot_eq, eTup_eq, eLst_eq, aCons_eq, aNil_eq, tVal_eq, tAnd_eq, tOr_eq, tNot_eq, tYes_eq, onB_some, asBool_bool, List.getElem?_cons_succ, List.getElem?_cons_zero, R.bind_ok, R.of_some, R.then_ok, Out.seq_nx, Out.seq_rt, outR_rt, outR_nx, tidy_ok, cmp_int, eq_int, add_int, sub_int, gc_d, Bool.not_true, Bool.not_false, Bool.false_eq_true, if_false, Int.reduceBEq, Bool.false_bne])
  obtain ⟨w, h5, e5, b5, x5, v5⟩ := done
  obtain ⟨h6, e6, b6, x6, v6⟩ := fn_v (n := 2) (k := 9) (body := b__law_spoilt) (ws := [.ref 1, .d (.tuple (CL nm ys zs))]) rfl b b5 x5 v5 e5
  exact ⟨w, h6, e6, b6, x6, v6⟩
end
end Sp
end

section
/-! Sz21: a program of eight functions. -/
namespace Sp
open Mi Sem
open PySem (PyData Str)
section
variable {ds : List Int} {h h' H : Hh} {w u : W} {hs : List Head}
def NL : List Str := ["abcdefgh", "bcd", "zzzzzzzz", "q", "counter", "walkon", "f", "halving"]
def PN : List Str := ["x", "abcdefgx", "y", "zzzzzzzy", "p"]
def KK : List (List Str) := [["int", "array", "int", "int", "array"], ["int", "int", "int", "int", "int"], ["array", "int", "int", "array", "int"]]
theorem KK_ok : ∀ K ∈ KK, ParamsOk (PN.zip K) ∧ K.length = 5 := by
  have : (KK.all fun K => paramsB (PN.zip K) && decide (K.length = 5)) = true := by decide +kernel
  intro K hK
  have := List.all_eq_true.mp this K hK
  simp only [Bool.and_eq_true, decide_eq_true_eq] at this
  exact ⟨paramsB_ok this.1, this.2⟩
theorem NL_ok : (∀ n ∈ NL, nameB n = true) ∧ NL.Nodup := ⟨by
  have : NL.all nameB = true := by decide +kernel
  exact fun n hn => List.all_eq_true.mp this n hn, by decide +kernel⟩
theorem eP_k {L : Loc} : (eLst (aCons (eLst (aCons (eCon (.str "int")) (aCons (eCon (.str "array")) (aCons (eCon (.str "int")) (aCons (eCon (.str "int")) (aCons (eCon (.str "array")) aNil)))))) (aCons (eOp2 opMul (eLst (aCons (eCon (.str "int")) aNil)) (eCon (.int 5))) (aCons (eLst (aCons (eCon (.str "array")) (aCons (eCon (.str "int")) (aCons (eCon (.str "int")) (aCons (eCon (.str "array")) (aCons (eCon (.str "int")) aNil)))))) aNil)))) L h =
    .ok (.ref (h ++ [O.lst ((["int", "array", "int", "int", "array"] : List Str).map W.str), O.lst [W.str "int"], O.lst ((["int", "int", "int", "int", "int"] : List Str).map W.str), O.lst ((["array", "int", "int", "array", "int"] : List Str).map W.str)]).length) (h ++ [O.lst ((["int", "array", "int", "int", "array"] : List Str).map W.str), O.lst [W.str "int"], O.lst ((["int", "int", "int", "int", "int"] : List Str).map W.str), O.lst ((["array", "int", "int", "array", "int"] : List Str).map W.str)] ++ [O.lst [.ref h.length, .ref (h.length + 2), .ref (h.length + 3)]]) := by
  have hm : opMul (.ref (h.length + 1)) (.d (.int 5)) (h ++ [O.lst ((["int", "array", "int", "int", "array"] : List Str).map W.str), O.lst [W.str "int"]]) = some (.ref (h.length + 2), h ++ [O.lst ((["int", "array", "int", "int", "array"] : List Str).map W.str), O.lst [W.str "int"], O.lst ((["int", "int", "int", "int", "int"] : List Str).map W.str)]) := by
    simp [opMul, sizeMax, List.replicate]
  simp at hm
  simp [sizeMax, hm]
/-- the parameters -/
theorem eg_l1 {x1 x3 x4 x6 : Option W} {a : Nat} {K : List Str} {M : Hh} (hK : M[a]? = some (.lst (K.map W.str))) (hl : K.length = 5) :
    ∃ y6, forL (Src.rg 0 5).ok (.nm 6) l1__law_eight (rgItems 0 5) [some (.ref 1), x1, some (.ref a), x3, x4, some (.d (.tuple [])), x6, none, none] M = .nx [some (.ref 1), x1, some (.ref a), x3, x4, some (.d (enPs (PN.zip K))), y6, none, none] M := by
  obtain ⟨L2, h2, e2, y6, rfl, rfl⟩ := forL_num (ok := (Src.rg 0 5).ok) (g := .nm 6) (body := l1__law_eight) (n := 5)
    (fun j L h' => ∃ y6, L = [some (.ref 1), x1, some (.ref a), x3, x4, some (.d (enPs ((PN.zip K).take j))), y6, none, none] ∧ h' = M) (fun _ _ _ _ => trivial)
    (fun j L h' hj ⟨y6, eL, eh⟩ => by
      subst eL eh
      refine ⟨[some (.ref 1), x1, some (.ref a), x3, x4, some (.d (enPs ((PN.zip K).take j))), some (.int (j : Int)), none, none], rfl, ?_⟩
      have hPl : PN.length = 5 := rfl
      obtain ⟨p, hp⟩ : ∃ p, PN[j]? = some p := ⟨PN[j]'(by omega), by simp [hPl, hj]⟩
      obtain ⟨k, hk⟩ : ∃ k, K[j]? = some k := ⟨K[j]'(by omega), by simp [hl, hj]⟩
      have hz : (PN.zip K)[j]? = some (p, k) := by rw [List.getElem?_zip_eq_some]; exact ⟨hp, hk⟩
      have e0 : eLst (aCons (eCon (.str "x")) (aCons (eCon (.str "abcdefgx")) (aCons (eCon (.str "y")) (aCons (eCon (.str "zzzzzzzy")) (aCons (eCon (.str "p")) aNil))))) [some (.ref 1), x1, some (.ref a), x3, x4, some (.d (enPs ((PN.zip K).take j))), some (.int (j : Int)), none, none] h' = .ok (.ref h'.length) (h' ++ [O.lst (PN.map W.str)]) := by
        simp [sizeMax, PN]
      have ei : opIx (.ref h'.length) (.d (.int (j : Int))) (h' ++ [O.lst (PN.map W.str)]) = some (W.str p, h' ++ [O.lst (PN.map W.str)]) := opIx_lst (ws := PN.map W.str) (by simp) (by rw [List.getElem?_map, hp]; rfl)
      have eg : eGc (eOp2 opIx (eLst (aCons (eCon (.str "x")) (aCons (eCon (.str "abcdefgx")) (aCons (eCon (.str "y")) (aCons (eCon (.str "zzzzzzzy")) (aCons (eCon (.str "p")) aNil)))))) (eVar 6)) [some (.ref 1), x1, some (.ref a), x3, x4, some (.d (enPs ((PN.zip K).take j))), some (.int (j : Int)), none, none] h' = .ok (W.str p) h' := by
        refine eGc_ok (h' := h' ++ [O.lst (PN.map W.str)]) ?_ (by simp) List.take_left
        rw [eOp2_eq, e0]
        simp only [R.bind_ok, eVar_eq, List.getElem?_cons_succ, List.getElem?_cons_zero, ei, R.of_some]
      have ek : opIx (.ref a) (.d (.int (j : Int))) h' = some (W.str k, h') := opIx_lst hK (by rw [List.getElem?_map, hk]; rfl)
      have ea : opAdd (.d (enPs ((PN.zip K).take j))) (.d (.tuple [.tuple [.str p, .str k]])) h' = some (.d (enPs ((PN.zip K).take (j + 1))), h') := by
        have := add_tup (xs := ((PN.zip K).take j).map enP) (ys := [.tuple [.str p, .str k]]) (M := h') (by simp; omega)
        rw [this, List.take_add_one, hz]; simp
      refine ⟨_, h', .inl ?_, some (.int (j : Int)), rfl, rfl⟩
      simp only [fn, List.length_cons, List.length_nil, if_true, List.map_cons, List.map_nil, List.replicate, List.cons_append, List.nil_append, Nat.reduceAdd, Nat.reduceSub, Nat.reduceLeDiff, sizeMax, sCons_eq, sRet_eq, sRetN_eq, sIf_eq, sAsg_eq, sExpr_eq, sNil_eq, put_nm, List.set_cons_succ, List.set_cons_zero, eVar_eq, eCon_eq, eOp1_eq, eOp2_eq, eOpN_eq, eCall_eq, eIf_eq, eAnd_eq, eNot_eq, eTup_eq, eLst_eq, aCons_eq, aNil_eq, tVal_eq, tAnd_eq, tOr_eq, tNot_eq, tYes_eq, onB_some, asBool_bool, List.getElem?_cons_succ, List.getElem?_cons_zero, R.bind_ok, R.of_some, R.then_ok, Out.seq_nx, Out.seq_rt, outR_rt, outR_nx, tidy_ok, cmp_int, eq_int, add_int, sub_int, gc_d, Bool.not_true, Bool.not_false, Bool.false_eq_true, if_false, l1__law_eight, eg, ek, mkTup_d2, mkTup_d1, ea])
    (L := [some (.ref 1), x1, some (.ref a), x3, x4, some (.d (.tuple [])), x6, none, none]) (h := M) ⟨x6, rfl, rfl⟩
  refine ⟨y6, ?_⟩
  rw [e2, List.take_of_length_le (by simp [PN, hl])]
/-- the heads -/
abbrev HE (K : List Str) (ns : List Str) : List Head := ns.map fun n => (n, PN.zip K)
theorem eg_l0 {a n hd : Nat} {K : List Str} {h0 : Hh} (b : Bd ds h) (x0 : Ex h0 h) (hd0 : h0.length = hd) (hb0 : 2 ≤ h0.length) (hat : h[hd]? = some (.lst [])) (hn : h0[n]? = some (.lst (NL.map W.str))) (hn1 : n ≠ 1) (ha : h0[a]? = some (.lst (K.map W.str))) (ha1 : a ≠ 1) (hl : K.length = 5) :
    ∃ (y4 y5 y6 : Option W) (h' : Hh), forL (Src.ls n (NL.map W.str)).ok (.nm 4) l0__law_eight (NL.map W.str) [some (.ref 1), some (.ref n), some (.ref a), some (.ref hd), none, none, none, none, none] h = .nx [some (.ref 1), some (.ref n), some (.ref a), some (.ref hd), y4, y5, y6, none, none] h' ∧ Bd ds h' ∧ Ex h0 h' ∧
      h'[hd]? = some (.lst ((HE K NL).map fun x => W.d (enH x))) := by
  obtain ⟨L2, h2, e2, y4, y5, y6, rfl, b2, x2, hat2⟩ := forL_all (ok := (Src.ls n (NL.map W.str)).ok) (g := .nm 4) (body := l0__law_eight) (enc := W.str) (xs := NL)
    (fun pre L h' => ∃ (y4 y5 y6 : Option W), L = [some (.ref 1), some (.ref n), some (.ref a), some (.ref hd), y4, y5, y6, none, none] ∧ Bd ds h' ∧ Ex h0 h' ∧ h'[hd]? = some (.lst ((HE K pre).map fun x => W.d (enH x))))
    (fun pre L h' ⟨_, _, _, _, _, x, _⟩ => x.2 _ _ hn1 hn)
    (fun pre nm post L h' e ⟨y4, y5, y6, eL, b1, x1, hat1⟩ => by
      subst eL
      have hpre : pre.length ≤ 8 := by have := congrArg List.length e; simp [NL] at this; omega
      refine ⟨[some (.ref 1), some (.ref n), some (.ref a), some (.ref hd), some (.str nm), y5, y6, none, none], rfl, ?_⟩
      obtain ⟨z6, el⟩ := eg_l1 (x1 := some (.ref n)) (x3 := some (.ref hd)) (x4 := some (.str nm)) (x6 := y6) (x1.2 _ _ ha1 ha) hl
      have hisl : isLst h' (.ref hd) = true := by simp [isLst, hat1]
      have hap := app_lst2 (h := h') (p := hd) (ws := (HE K pre).map fun x => W.d (enH x)) (x := W.d (enH (nm, PN.zip K))) hat1 (by simp; omega)
      have hlt := (List.getElem?_eq_some_iff.mp hat1).1
      have hap' : mAppend [.ref hd, .d (.tuple [.str nm, enPs (PN.zip K)])] h' = some (.non, h'.set hd (.lst ((HE K (pre ++ [nm])).map fun x => W.d (enH x)))) := by
        rw [show HE K (pre ++ [nm]) = HE K pre ++ [(nm, PN.zip K)] from by simp [HE], List.map_append]; exact hap
      have hr : iRange1 (eCon (.int 5)) [some (.ref 1), some (.ref n), some (.ref a), some (.ref hd), some (.str nm), some (.d (.tuple [])), y6, none, none] h' = .ok (.rg 0 5) h' := rfl
      refine ⟨_, h'.set hd (.lst ((HE K (pre ++ [nm])).map fun x => W.d (enH x))), .inl ?_, some (.str nm), some (.d (enPs (PN.zip K))), z6, rfl, b1.set (by omega), x1.set (by omega), by rw [List.getElem?_set_self hlt]⟩
      simp only [fn, List.length_cons, List.length_nil, if_true, List.map_cons, List.map_nil, List.replicate, List.cons_append, List.nil_append, Nat.reduceAdd, Nat.reduceSub, Nat.reduceLeDiff, sizeMax, sCons_eq, sRet_eq, sRetN_eq, sIf_eq, sAsg_eq, sExpr_eq, sNil_eq, put_nm, List.set_cons_succ, List.set_cons_zero, eVar_eq, eCon_eq, eOp1_eq, eOp2_eq, eOpN_eq, eCall_eq, eIf_eq, eAnd_eq, eNot_eq, eTup_eq, eLst_eq, aCons_eq, aNil_eq, tVal_eq, tAnd_eq, tOr_eq, tNot_eq, tYes_eq, onB_some, asBool_bool, List.getElem?_cons_succ, List.getElem?_cons_zero, R.bind_ok, R.of_some, R.then_ok, Out.seq_nx, Out.seq_rt, outR_rt, outR_nx, tidy_ok, cmp_int, eq_int, add_int, sub_int, gc_d, Bool.not_true, Bool.not_false, Bool.false_eq_true, if_false, l0__law_eight, mkTup_d0, sFor_eq, hr, items_rg, el, eMetL_eq, hisl, mkTup_d2, hap'])
    (L := [some (.ref 1), some (.ref n), some (.ref a), some (.ref hd), none, none, none, none, none]) (h := h) ⟨_, _, _, rfl, b, x0, hat⟩
  exact ⟨y4, y5, y6, h2, e2, b2, x2, hat2⟩
theorem All2.opens {Q : Head → List (Int × Int × Int) → Prop} {ys : List PyData} (a : All2 (fun (x : Head) y => ∃ ts, y = enO (x.1, ts) ∧ Q x ts) hs ys) : ∃ opn : List Open, ys = opn.map enO ∧ opn.length = hs.length ∧ ∀ o ∈ opn, ∃ x ∈ hs, o.1 = x.1 ∧ Q x o.2 := by
  induction a with
  | nil => exact ⟨[], rfl, rfl, by simp⟩
  | @cons x y xs ys h1 _ ih =>
    obtain ⟨ts, rfl, q⟩ := h1
    obtain ⟨opn, rfl, hl, ho⟩ := ih
    refine ⟨(x.1, ts) :: opn, rfl, by simp [hl], fun o ho' => ?_⟩
    rcases List.mem_cons.mp ho' with rfl | ho'
    · exact ⟨x, by simp, rfl, q⟩
    · obtain ⟨z, hz, r⟩ := ho o ho'
      exact ⟨z, List.mem_cons_of_mem _ hz, r⟩
theorem eight_ok (b : Bd ds h) : ∃ (hs : List Head) (opn : List Open) (P : PyData) (h' : Hh), m__law_eight [.ref 1] h = .ok (.d P) h' ∧ Bd ds h' ∧ Ex h h' ∧ ProgK (fun hs x y => BodyK hs x.2 2 y) hs opn P := by
  have hb := b.len
  have e0 : eLst (aCons (eCon (.str "abcdefgh")) (aCons (eCon (.str "bcd")) (aCons (eCon (.str "zzzzzzzz")) (aCons (eCon (.str "q")) (aCons (eCon (.str "counter")) (aCons (eCon (.str "walkon")) (aCons (eCon (.str "f")) (aCons (eCon (.str "halving")) aNil)))))))) [some (.ref 1), none, none, none, none, none, none, none, none] h = .ok (.ref h.length) (h ++ [O.lst (NL.map W.str)]) := by
    simp [sizeMax, NL]
  obtain ⟨w, h1, e1, b1, x1, hw⟩ := pick_at (ds := ds) (h := h ++ [O.lst (NL.map W.str)]) (L := [some (.ref 1), some (.ref h.length), none, none, none, none, none, none, none]) b.app rfl eP_k (List.cons_ne_nil _ _)
  have hl1 := x1.1
  simp at hl1
  have hn1 : h1[h.length]? = some (.lst (NL.map W.str)) := x1.2 _ _ (by omega) (by simp)
  obtain ⟨a, K, rfl, ha1, hK, haK⟩ : ∃ (a : Nat) (K : List Str), w = .ref a ∧ a ≠ 1 ∧ K ∈ KK ∧ h1[a]? = some (.lst (K.map W.str)) := by
    have key : ∀ (i : Nat) (o : O), [O.lst ((["int", "array", "int", "int", "array"] : List Str).map W.str), O.lst [W.str "int"], O.lst ((["int", "int", "int", "int", "int"] : List Str).map W.str), O.lst ((["array", "int", "int", "array", "int"] : List Str).map W.str)][i]? = some o → h1[(h ++ [O.lst (NL.map W.str)]).length + i]? = some o := fun i o e => by
      refine x1.2 _ _ (by simp; omega) ?_
      rw [List.getElem?_append_right (by omega), Nat.add_sub_cancel_left]
      exact e
    simp only [List.mem_cons, List.not_mem_nil, or_false] at hw
    have hlen : (h ++ [O.lst (NL.map W.str)]).length = h.length + 1 := by simp
    rcases hw with rfl | rfl | rfl
    · exact ⟨_, ["int", "array", "int", "int", "array"], rfl, by omega, by simp [KK], key 0 _ rfl⟩
    · exact ⟨_, ["int", "int", "int", "int", "int"], rfl, by omega, by simp [KK], key 2 _ rfl⟩
    · exact ⟨_, ["array", "int", "int", "array", "int"], rfl, by omega, by simp [KK], key 3 _ rfl⟩
  obtain ⟨hp, hK5⟩ := KK_ok K hK
  obtain ⟨y4, y5, y6, h2, e2, b2, x2, hat2⟩ := eg_l0 (ds := ds) (h := h1 ++ [O.lst []]) (h0 := h1) (a := a) (n := h.length) (hd := h1.length) b1.app .app rfl (by omega) (by simp) hn1 (by omega) haK ha1 hK5
  have g2 : Hds h2 h1.length (HE K NL) := ⟨hat2, by omega, by simp [HE, NL], fun x hx => by
    obtain ⟨n, _, rfl⟩ := List.mem_map.mp hx
    exact ⟨hp.kinds, by have := hp.len; show (PN.zip K).length < 1000; omega⟩⟩
  -- the functions
  obtain ⟨fs, h3, e3, b3, x3, hat3, all3⟩ := eComp_bd (ds := ds) (h := h2) (i := iSeq (eVar 3)) (vs := [4, 5]) (g := .tp [4, 5]) (e := eTup (aCons (eCon (.str "fun")) (aCons (eVar 4) (aCons (eVar 5) (aCons (eCall (m__law_body 6) (aCons (eVar 0) (aCons (eVar 3) (aCons (eOpN bDict2 (aCons (eVar 5) aNil)) (aCons (eCon (.int 2)) aNil))))) aNil)))))
    (L := [some (.ref 1), some (.ref h.length), some (.ref a), some (.ref h1.length), y4, y5, y6, none, none]) (enc := fun x => W.d (enH x)) (s := .ls h1.length ((HE K NL).map fun x => W.d (enH x))) (P := fun x f => ∃ y, f = .tuple [.str "fun", .str x.1, enPs x.2, y] ∧ BodyK (HE K NL) x.2 2 y) (xs := HE K NL) b2
    (by simp only [iSeq_eq, eVar_eq, List.getElem?_cons_succ, List.getElem?_cons_zero, R.bind_ok, g2.at_]) rfl (fun h' x => x.2 _ _ g2.ne g2.at_) (by simp [HE, NL]) (fun x hx => by
      obtain ⟨n, _, rfl⟩ := List.mem_map.mp hx
      refine ⟨[some (.ref 1), some (.ref h.length), some (.ref a), some (.ref h1.length), some (.str n), some (.d (enPs (PN.zip K))), y6, none, none], by simp [wipeL, enH, setAll], fun h' b' x' => ?_⟩
      have ed := dict_params (h := h') hp
      obtain ⟨y, h3, e3, b3, x3, hy⟩ := body_ok (ds := ds) (hs := HE K NL) 6 2 (by omega) (h := h' ++ [.dk ((PN.zip K).map enK)]) (p := h'.length) (q := h1.length) (kn := PN.zip K) b'.app ⟨by simp, by have := b'.len; omega, hp.ok, hp.nd⟩ (by have := hp.len; omega) ((g2.mono x').mono .app) hp.now
      have e3 : m__law_body 6 [.ref 1, .ref h1.length, .ref h'.length, .d (.int 2)] (h' ++ [.dk ((PN.zip K).map enK)]) = .ok (.d y) h3 := e3
      exact ⟨_, h3, by simp [ed, e3, sizeMax, mkTup_d4], b3, Ex.app.trans x3, y, rfl, hy⟩)
  have ef : (eOpN bTuple (aCons (eComp (iSeq (eVar 3)) [4, 5] (.tp [4, 5]) tYes (eTup (aCons (eCon (.str "fun")) (aCons (eVar 4) (aCons (eVar 5) (aCons (eCall (m__law_body 6) (aCons (eVar 0) (aCons (eVar 3) (aCons (eOpN bDict2 (aCons (eVar 5) aNil)) (aCons (eCon (.int 2)) aNil))))) aNil)))))) aNil)) [some (.ref 1), some (.ref h.length), some (.ref a), some (.ref h1.length), y4, y5, y6, none, none] h2 = .ok (.d (.tuple fs)) h3 := by
    rw [eOpN_eq, aCons_eq, e3]
    simp only [R.bind_ok, aNil_eq, bTuple, hat3, mkTup_map, R.of_some]
  obtain ⟨h4, e4, b4, x4, _⟩ := eGc_bd b2 ef b3 x3
  have g4 := g2.mono x4
  -- the opens
  obtain ⟨ys, h5, e5, b5, x5, hat5, all5⟩ := eComp_bd (ds := ds) (h := h4) (i := iSeq (eVar 3)) (vs := [4, 5]) (g := .tp [4, 5]) (e := eTup (aCons (eVar 4) (aCons (eCall m__law_promises (aCons (eVar 0) (aCons (eCon (.int 6)) aNil))) aNil)))
    (L := [some (.ref 1), some (.ref h.length), some (.ref a), some (.ref h1.length), y4, y5, y6, some (.d (.tuple fs)), none]) (enc := fun x => W.d (enH x)) (s := .ls h1.length ((HE K NL).map fun x => W.d (enH x))) (P := fun (x : Head) y => ∃ ts, y = enO (x.1, ts) ∧ (PromsOk 6 ts ∧ ts.length ≤ 2)) (xs := HE K NL) b4
    (by simp only [iSeq_eq, eVar_eq, List.getElem?_cons_succ, List.getElem?_cons_zero, R.bind_ok, g4.at_]) rfl (fun h' x => x.2 _ _ g4.ne g4.at_) (by simp [HE, NL]) (fun x hx => by
      refine ⟨[some (.ref 1), some (.ref h.length), some (.ref a), some (.ref h1.length), some (.str x.1), some (.d (enPs x.2)), y6, some (.d (.tuple fs)), none], by simp [wipeL, enH, setAll], fun h' b' x' => ?_⟩
      obtain ⟨ts, h6, e6, b6, x6, hpr, hpl⟩ := proms_ok (ds := ds) (h := h') (m := 6) b' (by omega)
      exact ⟨_, h6, by simp [e6, sizeMax, mkTup_d2], b6, x6, ts, rfl, hpr, hpl⟩)
  have eo : (eOpN bTuple (aCons (eComp (iSeq (eVar 3)) [4, 5] (.tp [4, 5]) tYes (eTup (aCons (eVar 4) (aCons (eCall m__law_promises (aCons (eVar 0) (aCons (eCon (.int 6)) aNil))) aNil)))) aNil)) [some (.ref 1), some (.ref h.length), some (.ref a), some (.ref h1.length), y4, y5, y6, some (.d (.tuple fs)), none] h4 = .ok (.d (.tuple ys)) h5 := by
    rw [eOpN_eq, aCons_eq, e5]
    simp only [R.bind_ok, aNil_eq, bTuple, hat5, mkTup_map, R.of_some]
  obtain ⟨h6, e6, b6, x6, _⟩ := eGc_bd b4 eo b5 x5
  obtain ⟨opn, rfl, hol, hoe⟩ := all5.opens
  have es : iSeq (eVar 1) [some (.ref 1), some (.ref h.length), some (.ref a), some (.ref h1.length), none, none, none, none, none] (h1 ++ [O.lst []]) = .ok (.ls h.length (NL.map W.str)) (h1 ++ [O.lst []]) := by
    have : (h1 ++ [O.lst []])[h.length]? = some (.lst (NL.map W.str)) := Ex.app.2 _ _ (by omega) hn1
    simp only [iSeq_eq, eVar_eq, List.getElem?_cons_succ, List.getElem?_cons_zero, R.bind_ok, this]
  have done : b__law_eight [some (.ref 1), none, none, none, none, none, none, none, none] h = .rt (.d (.tuple [.str "program", .tuple fs, .tuple (opn.map enO)])) h6 := by
    rw [b__law_eight, sCons_eq, sAsg_eq, e0]
    simp only [R.then_ok, put_nm, List.set_cons_succ, List.set_cons_zero, Out.seq_nx]
    rw [sCons_eq, sAsg_eq, e1]
    simp only [R.then_ok, put_nm, List.set_cons_succ, List.set_cons_zero, Out.seq_nx]
    simp only [fn, List.length_cons, List.length_nil, if_true, List.map_cons, List.map_nil, List.replicate, List.cons_append, List.nil_append, Nat.reduceAdd, Nat.reduceSub, Nat.reduceLeDiff, sizeMax, sCons_eq, sRet_eq, sRetN_eq, sIf_eq, sAsg_eq, sExpr_eq, sNil_eq, put_nm, List.set_cons_succ, List.set_cons_zero, eVar_eq, eCon_eq, eOp1_eq, eOp2_eq, eOpN_eq, eCall_eq, eIf_eq, eAnd_eq, eNot_eq, eTup_eq, eLst_eq, aCons_eq, aNil_eq, tVal_eq, tAnd_eq, tOr_eq, tNot_eq, tYes_eq, onB_some, asBool_bool, List.getElem?_cons_succ, List.getElem?_cons_zero, R.bind_ok, R.of_some, R.then_ok, Out.seq_nx, Out.seq_rt, outR_rt, outR_nx, tidy_ok, cmp_int, eq_int, add_int, sub_int, gc_d, Bool.not_true, Bool.not_false, Bool.false_eq_true, if_false, sFor_eq, es, items_ls, e2, e4, e6, mkTup_d3, Nat.zero_le]
  have xx : Ex h h6 := Ex.app.trans ((Ex.app.trans x1).trans (x2.trans (x4.trans x6)))
  obtain ⟨h7, e7, b7, x7⟩ := fn_d (n := 1) (k := 9) (body := b__law_eight) (ws := [.ref 1]) rfl b b6 xx done
  have hmem : ∀ x ∈ HE K NL, x.2 = PN.zip K ∧ x.1 ∈ NL := fun x hx => by
    obtain ⟨n, hn, rfl⟩ := List.mem_map.mp hx
    exact ⟨rfl, hn⟩
  have hfst : (HE K NL).map (·.1) = NL := by rw [HE, List.map_map]; exact List.map_id' NL
  refine ⟨HE K NL, opn, _, h7, e7, b7, x7, ⟨fs, rfl, all3⟩, fun x hx => ⟨by rw [(hmem x hx).1]; exact hp, NL_ok.1 _ (hmem x hx).2⟩, by rw [hfst]; exact NL_ok.2, fun z => ?_, fun o ho => ?_, ?_, ?_⟩
  · rw [z] at hol; simp [HE, NL] at hol
  · obtain ⟨x, hx, ho1, hpr, hpl⟩ := hoe o ho
    refine ⟨x.2, by rw [ho1]; exact hx, ?_, hpl⟩
    have : x.2.length = 5 := by rw [(hmem x hx).1]; simp [PN, hK5]
    rw [this]; exact hpr
  · simp [HE, NL]
  · rw [hol]; simp [HE, NL]
end
end Sp
end

section
/-! Lw21: the law holds. -/
namespace Sp
open Mi Sem
open PySem (PyData Str)
section
variable {ds : List Int} {h h' H : Hh} {w u : W} {hs : List Head} {B : List Head → Head → PyData → Prop} {opn : List Open} {P : PyData}
theorem All2.each {α β : Type} {P : α → β → Prop} {xs : List α} {ys : List β} (a : All2 P xs ys) : ∀ y ∈ ys, ∃ x, P x y := by
  induction a with
  | nil => simp
  | cons h1 _ ih =>
    intro y hy
    rcases List.mem_cons.mp hy with rfl | hy
    · exact ⟨_, h1⟩
    · exact ih y hy
theorem turn_ok {x0 x2 x4 x5 : Option W} (k : ProgK B hs opn P) (b : Bd ds h) : ∃ w h', l1_law [x0, some (.ref 1), x2, some (.d P), x4, x5] h = .nx [x0, some (.ref 1), x2, some (.d P), x4, some w] h' ∧ Bd ds h' := by
  obtain ⟨nm, ps, ys, zs, h1, e1, b1, x1, hm, hn, hys, hz, _⟩ := call_ok k b
  have hh := k.heads _ hm
  have hnm : nm.length ≤ 1000 := by
    have := hh.2
    simp only [nameB, Bool.and_eq_true, decide_eq_true_eq] at this
    omega
  have hyl : ys.length ≤ 5 := by have := hys.length; have := hh.1.len; simp at this; omega
  obtain ⟨w, h2, e2, b2, x2', v⟩ := spoilt_ok b1 hnm hyl (fun y hy => by obtain ⟨q, hq⟩ := hys.each y hy; exact ⟨_, hq⟩) (show zs.length ≤ 5 by omega)
  obtain ⟨vd, e3, al⟩ := both_ok k v
  have e4 := told_ok al
  have e5 := same_ok al (M := h2)
  refine ⟨w, h2, ?_, b2⟩
  simp only [fn, List.length_cons, List.length_nil, if_true, List.map_cons, List.map_nil, List.replicate, List.cons_append, List.nil_append, Nat.reduceAdd, Nat.reduceSub, Nat.reduceLeDiff, sizeMax, sCons_eq, sRet_eq, sRetN_eq, sIf_eq, sAsg_eq, sExpr_eq, sNil_eq, put_nm, List.set_cons_succ, List.set_cons_zero, eVar_eq, eCon_eq, eOp1_eq, eOp2_eq, eOpN_eq, eCall_eq, eIf_eq, eAnd_eq, eNot_eq, eTup_eq, eLst_eq, aCons_eq, aNil_eq, tVal_eq, tAnd_eq, tOr_eq, tNot_eq, tYes_eq, onB_some, asBool_bool, List.getElem?_cons_succ, List.getElem?_cons_zero, R.bind_ok, R.of_some, R.then_ok, Out.seq_nx, Out.seq_rt, outR_rt, outR_nx, tidy_ok, cmp_int, eq_int, add_int, sub_int, gc_d, Bool.not_true, Bool.not_false, Bool.false_eq_true, if_false, l1_law, e1, e2, e4, e3, e5]
end
end Sp
namespace Spec
open Mi Sem Sp
open PySem (PyData Str)
theorem law_ok : ∀ ns : List Int, ns.length ≤ 63 → ∃ M', Sem.m_law [.d (.list (ns.map .int))] [] = .ok (.bool true) M' := by
  intro ns _
  obtain ⟨ds, eb⟩ := box_ok (ns := ns) (L := [some (.d (encL ns)), none, none, none, none, none]) (i := 0) rfl
  have b0 : Bd ds (Bx ds 0) := ⟨0, [], by simp⟩
  obtain ⟨L2, h2, e2, y2, y3, y4, y5, rfl, b2⟩ := forL_num (ok := (Src.rg 0 3).ok) (g := .nm 2) (body := l0_law) (n := 3)
    (fun t L h' => ∃ y2 y3 y4 y5 : Option W, L = [some (.d (encL ns)), some (.ref 1), y2, y3, y4, y5] ∧ Bd ds h') (fun _ _ _ _ => trivial)
    (fun t L h' ht ⟨y2, y3, y4, y5, eL, b⟩ => by
      subst eL
      refine ⟨[some (.d (encL ns)), some (.ref 1), some (.int (t : Int)), y3, y4, y5], rfl, ?_⟩
      obtain ⟨hs, opn, P, h1, e1, b1, x1, k, _⟩ := program_ok (d := 2) b (by omega)
      have e1 : m__law_program [.ref 1, .d (.int 2)] h' = .ok (.d P) h1 := e1
      obtain ⟨i, h2, e2, b2, x2, i0, i1⟩ := draw (many := 3) b1 (by omega)
      have go : ∀ (hs : List Head) (opn : List Open) (P : PyData) (h3 : Hh) (a4 a5 : Option W), ProgK (fun _ _ _ => True) hs opn P → Bd ds h3 → ∃ y4 y5 h4, sFor (iRange1 (eCon (.int 7))) (.nm 4) l1_law [some (.d (encL ns)), some (.ref 1), some (.int (t : Int)), some (.d P), a4, a5] h3 = .nx [some (.d (encL ns)), some (.ref 1), some (.int (t : Int)), some (.d P), y4, y5] h4 ∧ Bd ds h4 := fun hs opn P h3 a4 a5 k b3 => by
        obtain ⟨L2, h4, e4, z4, z5, rfl, b4⟩ := forL_num (ok := (Src.rg 0 7).ok) (g := .nm 4) (body := l1_law) (n := 7)
          (fun j L h' => ∃ z4 z5 : Option W, L = [some (.d (encL ns)), some (.ref 1), some (.int (t : Int)), some (.d P), z4, z5] ∧ Bd ds h') (fun _ _ _ _ => trivial)
          (fun j L h' hj ⟨z4, z5, eL, b⟩ => by
            subst eL
            obtain ⟨w, h5, e5, b5⟩ := turn_ok (x0 := some (.d (encL ns))) (x2 := some (.int (t : Int))) (x4 := some (.int (j : Int))) (x5 := z5) k b
            exact ⟨_, rfl, _, h5, .inl e5, _, _, rfl, b5⟩)
          (L := [some (.d (encL ns)), some (.ref 1), some (.int (t : Int)), some (.d P), a4, a5]) (h := h3) ⟨_, _, rfl, b3⟩
        refine ⟨z4, z5, h4, ?_, b4⟩
        rw [sFor_eq, show iRange1 (eCon (.int 7)) [some (.d (encL ns)), some (.ref 1), some (.int (t : Int)), some (.d P), a4, a5] h3 = .ok (.rg 0 7) h3 from rfl, R.then_ok, items_rg, e4]
      by_cases c : i = 0
      · subst c
        obtain ⟨hs', opn', P', h3, e3, b3, x3, k'⟩ := eight_ok b2
        obtain ⟨z4, z5, h4, e4, b4⟩ := go hs' opn' P' h3 y4 y5 (k'.imp fun _ _ _ => trivial) b3
        refine ⟨[some (.d (encL ns)), some (.ref 1), some (.int (t : Int)), some (.d P'), z4, z5], h4, .inl ?_, _, _, _, _, rfl, b4⟩
        rw [l0_law, sCons_eq, sAsg_eq]
        simp only [fn, List.length_cons, List.length_nil, if_true, List.map_cons, List.map_nil, List.replicate, List.cons_append, List.nil_append, Nat.reduceAdd, Nat.reduceSub, Nat.reduceLeDiff, sizeMax, sCons_eq, sRet_eq, sRetN_eq, sIf_eq, sAsg_eq, sExpr_eq, sNil_eq, put_nm, List.set_cons_succ, List.set_cons_zero, eVar_eq, eCon_eq, eOp1_eq, eOp2_eq, eOpN_eq, eCall_eq, eIf_eq, eAnd_eq, eNot_eq, eTup_eq, eLst_eq, aCons_eq, aNil_eq, tVal_eq, tAnd_eq, tOr_eq, tNot_eq, tYes_eq, onB_some, asBool_bool, List.getElem?_cons_succ, List.getElem?_cons_zero, R.bind_ok, R.of_some, R.then_ok, Out.seq_nx, Out.seq_rt, outR_rt, outR_nx, tidy_ok, cmp_int, eq_int, add_int, sub_int, gc_d, Bool.not_true, Bool.not_false, Bool.false_eq_true, if_false, e1, e2, beq_self_eq_true, Bool.false_bne, e3, e4]
      · have hc : (i == 0) = false := by simpa using c
        obtain ⟨z4, z5, h4, e4, b4⟩ := go hs opn P h2 y4 y5 k b2
        refine ⟨[some (.d (encL ns)), some (.ref 1), some (.int (t : Int)), some (.d P), z4, z5], h4, .inl ?_, _, _, _, _, rfl, b4⟩
        rw [l0_law, sCons_eq, sAsg_eq]
        simp only [fn, List.length_cons, List.length_nil, if_true, List.map_cons, List.map_nil, List.replicate, List.cons_append, List.nil_append, Nat.reduceAdd, Nat.reduceSub, Nat.reduceLeDiff, sizeMax, sCons_eq, sRet_eq, sRetN_eq, sIf_eq, sAsg_eq, sExpr_eq, sNil_eq, put_nm, List.set_cons_succ, List.set_cons_zero, eVar_eq, eCon_eq, eOp1_eq, eOp2_eq, eOpN_eq, eCall_eq, eIf_eq, eAnd_eq, eNot_eq, eTup_eq, eLst_eq, aCons_eq, aNil_eq, tVal_eq, tAnd_eq, tOr_eq, tNot_eq, tYes_eq, onB_some, asBool_bool, List.getElem?_cons_succ, List.getElem?_cons_zero, R.bind_ok, R.of_some, R.then_ok, Out.seq_nx, Out.seq_rt, outR_rt, outR_nx, tidy_ok, cmp_int, eq_int, add_int, sub_int, gc_d, Bool.not_true, Bool.not_false, Bool.false_eq_true, if_false, e1, e2, hc, Bool.false_bne, e4])
    (L := [some (.d (encL ns)), some (.ref 1), none, none, none, none]) (h := Bx ds 0) ⟨_, _, _, _, rfl, b0⟩
  refine ⟨gc [] (.bool true) h2, ?_⟩
  have er : ∀ L M, iRange1 (eCon (.int 3)) L M = .ok (.rg 0 3) M := fun _ _ => rfl
  rw [show Sem.m_law = fn 1 6 b_law from rfl, fn]
  simp only [List.length_cons, List.length_nil, if_true, List.map_cons, List.map_nil, List.replicate, List.cons_append, List.nil_append, Nat.reduceAdd, Nat.reduceSub, b_law]
  rw [sCons_eq, sAsg_eq]
  change tidy _ (outR _ (Out.seq ((eLst _ [some (.d (encL ns)), none, none, none, none, none] []).then _ _) _)) = _
  rw [eb]
  simp only [R.then_ok, put_nm, Out.seq_nx, List.set_cons_succ, List.set_cons_zero]
  rw [sCons_eq, sFor_eq, er, R.then_ok, items_rg, show forL (Src.rg 0 3).ok (Tg.nm 2) l0_law (rgItems 0 3) [some (W.d (PyData.list (List.map PyData.int ns))), some (W.ref 1), none, none, none, none] (Bx ds 0) = _ from e2]
  simp only [Out.seq_nx, sCons_eq, sRet_eq, eCon_eq, R.then_ok, Out.seq_rt, outR_rt, tidy_ok]
end Spec
end

section
set_option maxHeartbeats 4000000
/-! MiR: how the evaluator's states stand for the hand layer's, and the judgements over them. -/
namespace Mi
open PySem PySem.Spec PyProof.Rows L2

abbrev Fr := PySem.W.Frag
abbrev Mg := Str → Option Value
/-- where the objects stand -/
abbrev Phi := List Addr

/-- a list that is only read -/
def RoL (K : Fr) (H : Hp) (a : Addr) (xs : List V) : Prop := (∃ o, H a = some (.frz o (.lst xs))) ∨
  ∃ (o : Obj) (its : Array Value) (n : Nat), K.lookup a = some o ∧ o.cls = .type "list" ∧ o.dict = none ∧ o.data = .seq its n ∧ its.size ≤ sizeLine ∧ Vals xs its.toList
theorem RoL.sq {K : Fr} {H : Hp} {a : Addr} {xs : List V} (h : RoL K H a xs) : SqL K H a xs := h.elim (fun z => .inl (.inr z)) .inr
/-- a tuple as it is made: no dict of its own -/
abbrev plT (its : List Value) : Obj := { cls := .type "tuple", data := .seq its.toArray }
def TupAt (H : Hp) (a : Addr) (xs : List V) : Prop := ∃ its : List Value, H a = some (.frz (plT its) (.tup xs))
theorem TupAt.sq {K : Fr} {H : Hp} {a : Addr} {xs : List V} (h : TupAt H a xs) : SqT K H a xs := h.elim fun its z => .inl (.inr ⟨_, z⟩)
mutual
inductive DR (K : Fr) (H : Hp) : V → PyData → Prop
  | non : DR K H .non .none
  | bl (b : Bool) : DR K H (.bl b) (.bool b)
  | int (i : Int) : DR K H (.int i) (.int i)
  | str (x : Str) (ok : PyData.strOk x = true) : DR K H (.str x) (.str x)
  | tup {a : Addr} {xs : List V} {ds : List PyData} : TupAt H a xs → DRs K H xs ds → DR K H (.ref a) (.tuple ds)
  | rol {a : Addr} {xs : List V} {ds : List PyData} : RoL K H a xs → DRs K H xs ds → DR K H (.ref a) (.list ds)
inductive DRs (K : Fr) (H : Hp) : List V → List PyData → Prop
  | nil : DRs K H [] []
  | cons {v : V} {vs : List V} {x : PyData} {xs : List PyData} : DR K H v x → DRs K H vs xs → DRs K H (v :: vs) (x :: xs)
end
mutual
inductive VR (K : Fr) (φ : Phi) (H : Hp) : V → W → Prop
  | d {v : V} {x : PyData} : DR K H v x → VR K φ H v (.d x)
  | ref {a : Addr} {i : Nat} : φ[i]? = some a → VR K φ H (.ref a) (.ref i)
  | mix {a : Addr} {vs : List V} {ws : List W} : TupAt H a vs → VRs K φ H vs ws → VR K φ H (.ref a) (.mix ws)
inductive VRs (K : Fr) (φ : Phi) (H : Hp) : List V → List W → Prop
  | nil : VRs K φ H [] []
  | cons {v : V} {vs : List V} {w : W} {ws : List W} : VR K φ H v w → VRs K φ H vs ws → VRs K φ H (v :: vs) (w :: ws)
end
/-- tuples stand -/
def TK (K : Fr) (H H' : Hp) : Prop := (∀ a xs, H a = some (.tup xs) → H' a = some (.tup xs)) ∧ ∀ a o u, H a = some (.frz o u) → H' a = some (.frz o u)
theorem TupAt.mono {K : Fr} {H H' : Hp} {a : Addr} {xs : List V} (t : TK K H H') (h : TupAt H a xs) : TupAt H' a xs := h.elim fun its z => ⟨its, t.2 _ _ _ z⟩
theorem TK.refl {K : Fr} {H : Hp} : TK K H H := ⟨fun _ _ h => h, fun _ _ _ h => h⟩
theorem TK.trans {K : Fr} {H H1 H2 : Hp} (a : TK K H H1) (b : TK K H1 H2) : TK K H H2 := ⟨fun c xs h => b.1 c xs (a.1 c xs h), fun c o u h => b.2 c o u (a.2 c o u h)⟩
theorem RoL.mono {K : Fr} {H H' : Hp} {a : Addr} {xs : List V} (t : TK K H H') (h : RoL K H a xs) : RoL K H' a xs := h.imp (fun ⟨o, z⟩ => ⟨o, t.2 _ _ _ z⟩) id
def Ext (φ φ' : Phi) : Prop := ∀ (i : Nat) (a : Addr), φ[i]? = some a → φ'[i]? = some a
theorem Ext.refl {φ : Phi} : Ext φ φ := fun _ _ h => h
theorem Ext.trans {a b c : Phi} (x : Ext a b) (y : Ext b c) : Ext a c := fun i z h => y i z (x i z h)
theorem Ext.app {φ : Phi} {ψ : Phi} : Ext φ (φ ++ ψ) := fun i a h => by
  have hl : i < φ.length := (List.getElem?_eq_some_iff.mp h).1
  rw [List.getElem?_append_left hl]; exact h
section
variable {K : Fr} {H H' : Hp} {φ φ' : Phi}
mutual
theorem DR.mono (t : TK K H H') : ∀ {v : V} {x : PyData}, DR K H v x → DR K H' v x
  | _, _, .non => .non
  | _, _, .bl b => .bl b
  | _, _, .int i => .int i
  | _, _, .str x ok => .str x ok
  | _, _, .tup s r => .tup (s.mono t) (DRs.mono t r)
  | _, _, .rol s r => .rol (s.mono t) (DRs.mono t r)
theorem DRs.mono (t : TK K H H') : ∀ {vs : List V} {xs : List PyData}, DRs K H vs xs → DRs K H' vs xs
  | _, _, .nil => .nil
  | _, _, .cons r s => .cons (DR.mono t r) (DRs.mono t s)
end
mutual
theorem VR.mono (e : Ext φ φ') (t : TK K H H') : ∀ {v : V} {w : W}, VR K φ H v w → VR K φ' H' v w
  | _, _, .d r => .d (r.mono t)
  | _, _, .ref h => .ref (e _ _ h)
  | _, _, .mix s r => .mix (s.mono t) (VRs.mono e t r)
theorem VRs.mono (e : Ext φ φ') (t : TK K H H') : ∀ {vs : List V} {ws : List W}, VRs K φ H vs ws → VRs K φ' H' vs ws
  | _, _, .nil => .nil
  | _, _, .cons r s => .cons (VR.mono e t r) (VRs.mono e t s)
end
theorem VRs.length : ∀ {vs : List V} {ws : List W}, VRs K φ H vs ws → vs.length = ws.length
  | _, _, .nil => rfl
  | _, _, .cons _ r => by rw [List.length_cons, List.length_cons, VRs.length r]
theorem VRs.get : ∀ {vs : List V} {ws : List W} {i : Nat} {v : V}, VRs K φ H vs ws → vs[i]? = some v → ∃ w, ws[i]? = some w ∧ VR K φ H v w
  | _, _, 0, _, .cons r _, h => by simp at h; subst h; exact ⟨_, rfl, r⟩
  | _, _, i + 1, _, .cons _ s, h => by
    obtain ⟨w, h1, h2⟩ := VRs.get (i := i) s (by simpa using h)
    exact ⟨w, by simpa using h1, h2⟩
  | _, _, _, _, .nil, h => by simp at h
theorem VRs.get' : ∀ {vs : List V} {ws : List W} {i : Nat} {w : W}, VRs K φ H vs ws → ws[i]? = some w → ∃ v, vs[i]? = some v ∧ VR K φ H v w
  | _, _, 0, _, .cons r _, h => by simp at h; subst h; exact ⟨_, rfl, r⟩
  | _, _, i + 1, _, .cons _ s, h => by
    obtain ⟨w, h1, h2⟩ := VRs.get' (i := i) s (by simpa using h)
    exact ⟨w, by simpa using h1, h2⟩
  | _, _, _, _, .nil, h => by simp at h
theorem VRs.append : ∀ {vs us : List V} {ws zs : List W}, VRs K φ H vs ws → VRs K φ H us zs → VRs K φ H (vs ++ us) (ws ++ zs)
  | _, _, _, _, .nil, s => s
  | _, _, _, _, .cons r t, s => .cons r (VRs.append t s)
theorem VRs.set : ∀ {vs : List V} {ws : List W} (i : Nat) {v : V} {w : W}, VRs K φ H vs ws → VR K φ H v w → VRs K φ H (vs.set i v) (ws.set i w)
  | _, _, _, _, _, .nil, _ => .nil
  | _, _, 0, _, _, .cons _ t, r => .cons r t
  | _, _, i + 1, _, _, .cons q t, r => .cons q (VRs.set i t r)
theorem VRs.take : ∀ {vs : List V} {ws : List W} (n : Nat), VRs K φ H vs ws → VRs K φ H (vs.take n) (ws.take n)
  | _, _, 0, _ => .nil
  | _, _, _ + 1, .nil => .nil
  | _, _, n + 1, .cons r t => .cons r (VRs.take n t)
theorem VRs.drop : ∀ {vs : List V} {ws : List W} (n : Nat), VRs K φ H vs ws → VRs K φ H (vs.drop n) (ws.drop n)
  | _, _, 0, r => r
  | _, _, _ + 1, .nil => .nil
  | _, _, n + 1, .cons _ t => VRs.drop n t
theorem VRs.ofD : ∀ {vs : List V} {xs : List PyData}, DRs K H vs xs → VRs K φ H vs (xs.map .d)
  | _, _, .nil => .nil
  | _, _, .cons r s => .cons (.d r) (VRs.ofD s)
theorem VRs.toD : ∀ {vs : List V} {ws : List W} {xs : List PyData}, VRs K φ H vs ws → allD ws = some xs → DRs K H vs xs
  | _, _, xs, .nil, h => by cases h; exact .nil
  | _, _, xs, .cons (w := w) (ws := ws) r s, h => by
    cases r with
    | d r =>
      simp only [allD] at h
      cases e : allD ws with
      | none => rw [e] at h; cases h
      | some ys => rw [e] at h; cases h; exact .cons r (VRs.toD s e)
    | ref => cases h
    | mix => cases h
theorem VR.items {v : V} {w : W} {ws : List W} (r : VR K φ H v w) (e : w.items = some ws) : ∃ a vs, v = .ref a ∧ TupAt H a vs ∧ VRs K φ H vs ws := by
  cases r with
  | d r => cases r with
    | tup s r => simp [W.items] at e; subst e; exact ⟨_, _, rfl, s, VRs.ofD r⟩
    | _ => simp [W.items] at e
  | ref _ => simp [W.items] at e
  | mix s r => simp [W.items] at e; subst e; exact ⟨_, _, rfl, s, r⟩
theorem VR.mkTup {a : Addr} {vs : List V} {ws : List W} (s : TupAt H a vs) (r : VRs K φ H vs ws) : VR K φ H (.ref a) (Mi.mkTup ws) := by
  unfold Mi.mkTup
  split
  · rename_i xs e; exact .d (.tup s (r.toD e))
  · exact .mix s r
end

/-- an object as it stands -/
def OR (K : Fr) (mg : Mg) (φ : Phi) (H : Hp) (a : Addr) : O → Prop
  | .lst ws => ∃ vs, H a = some (.lst vs) ∧ VRs K φ H vs ws
  | .dk kvs => ∃ ks, H a = some (.dK ks) ∧ ks.map (·.1) = kvs.map (·.1) ∧ VRs K φ H (ks.map (·.2)) (kvs.map (·.2))
  | .dt kvs => ∃ ks, H a = some (.dT ks) ∧ ks.map (·.1) = kvs.map (·.1) ∧ VRs K φ H (ks.map (·.2)) (kvs.map (·.2))
  | .ins c fs => ∃ C dx gs, mg c = some (.ref C) ∧ H a = some (.ins C dx gs) ∧ gs.map (·.1) = fs.map (·.1) ∧ VRs K φ H (gs.map (·.2)) (fs.map (·.2))
structure Rel (K : Fr) (mg : Mg) (φ : Phi) (M : Hh) (H : Hp) : Prop where
  len : φ.length = M.length
  nd : ∀ (i j : Nat) (a : Addr), φ[i]? = some a → φ[j]? = some a → i = j
  ob : ∀ (i : Nat) (a : Addr) (o : O), φ[i]? = some a → M[i]? = some o → OR K mg φ H a o
def LR (K : Fr) (φ : Phi) (H : Hp) (σ : L2.St) (L : Loc) : Prop := σ.length = L.length ∧ ∀ (i : Nat) (w : W), L[i]? = some (some w) → ∃ v, σ[i]? = some (some v) ∧ VR K φ H v w
section
variable {K : Fr} {mg : Mg} {H H' : Hp} {φ φ' : Phi} {M M' : Hh}
theorem OR.tracked {a : Addr} {o : O} (h : OR K mg φ H a o) : ∃ u, H a = some u ∧ (∀ xs, u ≠ .tup xs) ∧ ∀ ob z, u ≠ .frz ob z := by
  cases o with
  | lst ws => obtain ⟨vs, h, _⟩ := h; exact ⟨_, h, (by intro _ e; cases e), (by intro _ _ e; cases e)⟩
  | dk kvs => obtain ⟨vs, h, _⟩ := h; exact ⟨_, h, (by intro _ e; cases e), (by intro _ _ e; cases e)⟩
  | dt kvs => obtain ⟨vs, h, _⟩ := h; exact ⟨_, h, (by intro _ e; cases e), (by intro _ _ e; cases e)⟩
  | ins c fs => obtain ⟨C, dx, gs, _, h, _⟩ := h; exact ⟨_, h, (by intro _ e; cases e), (by intro _ _ e; cases e)⟩
theorem OR.mono {a : Addr} {o : O} (e : Ext φ φ') (t : TK K H H') (k : H' a = H a) (h : OR K mg φ H a o) : OR K mg φ' H' a o := by
  cases o with
  | lst ws => obtain ⟨vs, h, r⟩ := h; exact ⟨vs, k.trans h, r.mono e t⟩
  | dk kvs => obtain ⟨vs, h, q, r⟩ := h; exact ⟨vs, k.trans h, q, r.mono e t⟩
  | dt kvs => obtain ⟨vs, h, q, r⟩ := h; exact ⟨vs, k.trans h, q, r.mono e t⟩
  | ins c fs => obtain ⟨C, dx, gs, q0, h, q, r⟩ := h; exact ⟨C, dx, gs, q0, k.trans h, q, r.mono e t⟩
theorem Rel.at (R : Rel K mg φ M H) {i : Nat} {o : O} (h : M[i]? = some o) : ∃ a, φ[i]? = some a ∧ OR K mg φ H a o := by
  have hi : i < φ.length := by rw [R.len]; exact (List.getElem?_eq_some_iff.mp h).1
  exact ⟨φ[i], by simp [hi], R.ob i _ o (by simp [hi]) h⟩
theorem Rel.ob' (R : Rel K mg φ M H) {i : Nat} {a : Addr} {o : O} (h : M[i]? = some o) (e : φ[i]? = some a) : OR K mg φ H a o := R.ob i a o e h
/-- an address of the objects is tracked -/
theorem Rel.tracked (R : Rel K mg φ M H) {i : Nat} {a : Addr} (h : φ[i]? = some a) : ∃ u, H a = some u := by
  have hi : i < M.length := by rw [← R.len]; exact (List.getElem?_eq_some_iff.mp h).1
  obtain ⟨u, h, _⟩ := (R.ob i a M[i] h (by simp [hi])).tracked
  exact ⟨u, h⟩
theorem TK.laid {p : Addr} {o : HO} (h : H p = none) : TK K H (upd H p o) :=
  ⟨fun a xs s => by rw [upd_ne (ne_of_none s h)]; exact s, fun a ob z s => by rw [upd_ne (ne_of_none s h)]; exact s⟩
theorem TK.write {p : Addr} {o u : HO} (h : H p = some u) (h1 : ∀ xs, u ≠ .tup xs) (h2 : ∀ ob z, u ≠ .frz ob z) : TK K H (upd H p o) :=
  ⟨fun a xs s => by rw [upd_ne (by intro e; subst e; rw [h] at s; cases s; exact h1 _ rfl)]; exact s, fun a ob z s => by rw [upd_ne (by intro e; subst e; rw [h] at s; cases s; exact h2 _ _ rfl)]; exact s⟩
theorem Rel.mono (R : Rel K mg φ M H) (t : TK K H H') (k : ∀ (i : Nat) (a : Addr), φ[i]? = some a → H' a = H a) : Rel K mg φ M H' :=
  ⟨R.len, R.nd, fun i a o h1 h2 => (R.ob i a o h1 h2).mono .refl t (k i a h1)⟩
/-- a thing is laid that is none of the objects -/
theorem Rel.other (R : Rel K mg φ M H) {p : Addr} {o : HO} (h : H p = none) : Rel K mg φ M (upd H p o) :=
  R.mono (.laid h) fun i a e => by
    obtain ⟨u, q⟩ := R.tracked e
    exact upd_ne (ne_of_none q h)
theorem getElem?_snoc {α : Type} {l : List α} {x y : α} {i : Nat} (h : (l ++ [x])[i]? = some y) : l[i]? = some y ∨ (i = l.length ∧ y = x) := by
  rcases Nat.lt_trichotomy i l.length with q | q | q
  · rw [List.getElem?_append_left q] at h; exact .inl h
  · subst q; simp at h; exact .inr ⟨rfl, h.symm⟩
  · rw [List.getElem?_append_right (by omega)] at h
    have : i - l.length ≠ 0 := by omega
    simp [List.getElem?_singleton, this] at h
/-- a new object -/
theorem Rel.new (R : Rel K mg φ M H) {p : Addr} {u : HO} {o : O} (h : H p = none) (q : OR K mg (φ ++ [p]) (upd H p u) p o) : Rel K mg (φ ++ [p]) (M ++ [o]) (upd H p u) := by
  refine ⟨by simp [R.len], fun i j a h1 h2 => ?_, fun i a o' h1 h2 => ?_⟩
  · have fresh : ∀ i : Nat, φ[i]? = some p → False := fun i e => by
      obtain ⟨u, q⟩ := R.tracked e
      rw [h] at q; cases q
    rcases getElem?_snoc h1 with k1 | ⟨k1, l1⟩
    · rcases getElem?_snoc h2 with k2 | ⟨k2, l2⟩
      · exact R.nd i j a k1 k2
      · rw [l2] at k1; exact (fresh i k1).elim
    · rcases getElem?_snoc h2 with k2 | ⟨k2, l2⟩
      · rw [l1] at k2; exact (fresh j k2).elim
      · omega
  · rcases getElem?_snoc h1 with h1 | ⟨h1, h1'⟩
    · have hi : i < M.length := by rw [← R.len]; exact (List.getElem?_eq_some_iff.mp h1).1
      rw [List.getElem?_append_left hi] at h2
      obtain ⟨u, z⟩ := R.tracked h1
      exact (R.ob i a o' h1 h2).mono .app (.laid h) (upd_ne (ne_of_none z h))
    · subst h1 h1'
      rw [R.len] at h2
      simp at h2
      subst h2
      exact q
/-- an object is written -/
theorem Rel.write (R : Rel K mg φ M H) {i : Nat} {a : Addr} {o : O} {u u' : HO} (e : φ[i]? = some a) (hu : H a = some u) (h1 : ∀ xs, u ≠ .tup xs) (h2 : ∀ ob z, u ≠ .frz ob z) (q : OR K mg φ (upd H a u') a o) :
    Rel K mg φ (M.set i o) (upd H a u') := by
  refine ⟨by simp [R.len], R.nd, fun j b o' e1 e2 => ?_⟩
  by_cases hj : i = j
  · subst hj
    rw [e] at e1; cases e1
    have hi : i < M.length := by rw [← R.len]; exact (List.getElem?_eq_some_iff.mp e).1
    rw [List.getElem?_set_self hi] at e2; cases e2
    exact q
  · rw [List.getElem?_set_ne hj] at e2
    refine (R.ob j b o' e1 e2).mono .refl (.write hu h1 h2) (upd_ne fun z => ?_)
    subst z
    exact hj (R.nd i j _ e e1)
theorem LR.mono {σ : L2.St} {L : Loc} (e : Ext φ φ') (t : TK K H H') (h : LR K φ H σ L) : LR K φ' H' σ L :=
  ⟨h.1, fun i w q => let ⟨v, a, b⟩ := h.2 i w q; ⟨v, a, b.mono e t⟩⟩
theorem LR.set {σ : L2.St} {L : Loc} (h : LR K φ H σ L) {i : Nat} {v : V} {w : W} (r : VR K φ H v w) : LR K φ H (σ.set i (some v)) (L.set i (some w)) := by
  refine ⟨by simp [h.1], fun j w' q => ?_⟩
  by_cases hj : i = j
  · subst hj
    by_cases hi : i < L.length
    · rw [List.getElem?_set_self hi] at q; cases q
      exact ⟨v, List.getElem?_set_self (by rw [h.1]; exact hi), r⟩
    · rw [List.getElem?_eq_none (by simpa using hi)] at q; cases q
  · rw [List.getElem?_set_ne hj] at q
    obtain ⟨v', a, b⟩ := h.2 j w' q
    exact ⟨v', by rw [List.getElem?_set_ne hj]; exact a, b⟩
theorem LR.setNone {σ : L2.St} {L : Loc} (h : LR K φ H σ L) (i : Nat) : LR K φ H (σ.set i none) (L.set i none) := by
  refine ⟨by simp [h.1], fun j w' q => ?_⟩
  by_cases hj : i = j
  · subst hj
    by_cases hi : i < L.length
    · rw [List.getElem?_set_self hi] at q; cases q
    · rw [List.getElem?_eq_none (by simpa using hi)] at q; cases q
  · rw [List.getElem?_set_ne hj] at q
    obtain ⟨v', a, b⟩ := h.2 j w' q
    exact ⟨v', by rw [List.getElem?_set_ne hj]; exact a, b⟩
theorem LR.wipe {σ : L2.St} {L : Loc} (h : LR K φ H σ L) : ∀ vs : List Nat, LR K φ H (L2.wipe σ vs) (wipeL L vs)
  | [] => h
  | v :: vs => by
    unfold L2.wipe wipeL
    exact (LR.wipe h vs).setNone v
theorem LR.start {vs : List V} {ws : List W} (N : List Str) (r : VRs K φ H vs ws) : LR K φ H (L2.start N vs) (ws.map some ++ List.replicate (N.length - ws.length) none) := by
  unfold L2.start
  have hl := r.length
  refine ⟨by simp [hl], fun i w q => ?_⟩
  by_cases hi : i < ws.length
  · rw [List.getElem?_append_left (by simpa using hi)] at q
    rw [List.getElem?_map] at q
    have q' : ws[i]? = some w := by
      cases e : ws[i]? with
      | none => rw [e] at q; cases q
      | some z => rw [e] at q; cases q; rfl
    obtain ⟨v, a, b⟩ := r.get' q'
    exact ⟨v, by rw [List.getElem?_append_left (by simp; omega), List.getElem?_map, a]; rfl, b⟩
  · rw [List.getElem?_append_right (by simpa using hi), List.getElem?_replicate] at q
    split at q <;> cases q
end

/-- an exception: its class, its own dict -/
def ER (K : Fr) (mg : Mg) (H : Hp) (cls : Value) (d : Option Addr) (x : Ex) : Prop :=
  ∃ C, mg x.cls = some (.ref C) ∧ cls = .ref C ∧ ((x.fs = [] ∧ d = none) ∨ ∃ dd gs, d = some dd ∧ H dd = some (.xd gs) ∧ gs.map (·.1) = x.fs.map (·.1) ∧ DRs K H (gs.map (·.2)) (x.fs.map (·.2)))

/-- what comes of a piece of code -/
def Res {α β : Type} (K : Fr) (mg : Mg) (rel : Phi → Hp → β → α → Prop) (φ : Phi) (H : Hp) (out : R α) (Q : β → Hp → Prop) (E : XK) : Prop := match out with
  | .ok w M' => ∀ φ' H' v, Rel K mg φ' M' H' → rel φ' H' v w → Ext φ φ' → TK K H H' → Q v H'
  | .ex x M' => ∀ φ' H' cls d, Rel K mg φ' M' H' → ER K mg H' cls d x → Ext φ φ' → TK K H H' → E cls d H'
  | .bad => False
section
variable {α β γ δ : Type} {K : Fr} {mg : Mg} {rel : Phi → Hp → β → α → Prop} {rel' : Phi → Hp → δ → γ → Prop} {φ φ' : Phi} {H H' : Hp} {Q Q' : β → Hp → Prop} {E E' : XK} {M : Hh}
theorem Res.mono {out : R α} (h : Res K mg rel φ H out Q E) (e : Ext φ φ') (t : TK K H H') : Res K mg rel φ' H' out Q E := by
  cases out with
  | ok w M' => exact fun φ2 H2 v R r e2 t2 => h φ2 H2 v R r (e.trans e2) (t.trans t2)
  | ex x M' => exact fun φ2 H2 c d R r e2 t2 => h φ2 H2 c d R r (e.trans e2) (t.trans t2)
  | bad => exact h
theorem Res.imp {out : R α} (h : Res K mg rel φ H out Q E) (hq : ∀ v H, Q v H → Q' v H) (he : ∀ c d H, E c d H → E' c d H) : Res K mg rel φ H out Q' E' := by
  cases out with
  | ok w M' => exact fun φ2 H2 v R r e2 t2 => hq _ _ (h φ2 H2 v R r e2 t2)
  | ex x M' => exact fun φ2 H2 c d R r e2 t2 => he _ _ _ (h φ2 H2 c d R r e2 t2)
  | bad => exact h
/-- one piece, then another -/
theorem Res.seq {out : R α} {f : α → Hh → R γ} {Q : δ → Hp → Prop} (h : Res K mg rel' φ H (out.bind f) Q E) :
    Res K mg rel φ H out (fun v H1 => ∃ φ1 M1 w, Rel K mg φ1 M1 H1 ∧ rel φ1 H1 v w ∧ Ext φ φ1 ∧ TK K H H1 ∧ Res K mg rel' φ1 H1 (f w M1) Q E) E := by
  cases out with
  | ok w M' => exact fun φ2 H2 v R r e2 t2 => ⟨φ2, M', w, R, r, e2, t2, Res.mono h e2 t2⟩
  | ex x M' => exact h
  | bad => exact h
/-- the end -/
theorem Res.here {w : α} {v : β} (h : Res K mg rel φ H (.ok w M) Q E) (R : Rel K mg φ M H) (r : rel φ H v w) : Q v H := h φ H v R r .refl .refl
end
abbrev relB : Phi → Hp → Bool → Bool → Prop := fun _ _ a b => a = b

/-- the judgement of an expression: m tells what it does; W: what is wanted of an exception -/
def tM (K : Fr) (mg : Mg) (Wx : WX) (m : EM) : TE := fun σ H Q => ∃ φ M L, Rel K mg φ M H ∧ LR K φ H σ L ∧ Res K mg (VR K) φ H (m L M) Q (fun c d H' => Wx c d σ H')
def tT (K : Fr) (mg : Mg) (Wx : WX) (m : TM) : TT := fun σ H Q => ∃ φ M L, Rel K mg φ M H ∧ LR K φ H σ L ∧ Res K mg relB φ H (m L M) Q (fun c d H' => Wx c d σ H')
def tA (K : Fr) (mg : Mg) (Wx : WX) (m : AM) : TA := fun σ H Q => ∃ φ M L, Rel K mg φ M H ∧ LR K φ H σ L ∧ Res K mg (VRs K) φ H (m L M) Q (fun c d H' => Wx c d σ H')
abbrev ME (X : Cx) (Wx : WX) (e : Expr) (m : EM) : Prop := PE X e (tM X.K X.mg Wx m)
abbrev MT (X : Cx) (Wx : WX) (e : Expr) (m : TM) : Prop := PT X e (tT X.K X.mg Wx m)
abbrev MWt (X : Cx) (Wx : WX) (e : Expr) (m : TM) : Prop := PW X e (tT X.K X.mg Wx m)
abbrev MA (X : Cx) (Wx : WX) (es : List Expr) (m : AM) : Prop := PA X es (tA X.K X.mg Wx m)
theorem _root_.L2.PE.imp {X : Cx} {e : Expr} {t t' : TE} (h : PE X e t) (i : ∀ σ H Q, t' σ H Q → t σ H Q) : PE X e t' := ⟨fun pins s σ H Q I q => h.run pins s σ H Q I (i σ H Q q)⟩
theorem _root_.L2.PT.imp {X : Cx} {e : Expr} {t t' : TT} (h : PT X e t) (i : ∀ σ H Q, t' σ H Q → t σ H Q) : PT X e t' := ⟨fun pins s σ H Q I q => h.run pins s σ H Q I (i σ H Q q)⟩
theorem _root_.L2.PW.imp {X : Cx} {e : Expr} {t t' : TT} (h : PW X e t) (i : ∀ σ H Q, t' σ H Q → t σ H Q) : PW X e t' := ⟨fun wh pins s σ H Q I q => h.run wh pins s σ H Q I (i σ H Q q)⟩
theorem _root_.L2.PA.imp {X : Cx} {e : List Expr} {t t' : TA} (h : PA X e t) (i : ∀ σ H Q, t' σ H Q → t σ H Q) : PA X e t' := ⟨fun pos pins s σ H Q I q => h.run pos pins s σ H Q I (i σ H Q q)⟩
theorem _root_.L2.PS.imp {X : Cx} {e : Stmt} {t t' : TS} (h : PS X e t) (i : ∀ D σ H, t' D σ H → t D σ H) : PS X e t' := ⟨fun pins s σ H D I q => h.run pins s σ H D I (i D σ H q)⟩
theorem _root_.L2.PSs.imp {X : Cx} {e : List Stmt} {t t' : TS} (h : PSs X e t) (i : ∀ D σ H, t' D σ H → t D σ H) : PSs X e t' := ⟨fun pins s σ H D I q => h.run pins s σ H D I (i D σ H q)⟩

/-- operations by values -/
def rel1 (K : Fr) (mg : Mg) (f : Op1) : V → Hp → VK → Prop := fun x H Q => ∃ φ M w, Rel K mg φ M H ∧ VR K φ H x w ∧ Res K mg (VR K) φ H (R.of (f w M)) Q E0
def rel2 (K : Fr) (mg : Mg) (f : Op2) : R2 := fun x y H Q => ∃ φ M w z, Rel K mg φ M H ∧ VR K φ H x w ∧ VR K φ H y z ∧ Res K mg (VR K) φ H (R.of (f w z M)) Q E0
def relN (K : Fr) (mg : Mg) (f : OpN) : List V → Hp → VK → Prop := fun xs H Q => ∃ φ M ws, Rel K mg φ M H ∧ VRs K φ H xs ws ∧ Res K mg (VR K) φ H (R.of (f ws M)) Q E0
theorem Res.of0 {K : Fr} {mg : Mg} {φ : Phi} {H : Hp} {o : Option (W × Hh)} {Q : VK} {E : XK} (h : Res K mg (VR K) φ H (R.of o) Q E) : Res K mg (VR K) φ H (R.of o) Q E0 := by
  cases o with
  | none => exact h
  | some p => exact h

section
variable {X : Cx} {Wx : WX} {K : Fr} {mg : Mg} {e a b c : Expr} {es : List Expr} {m ma mb mc : EM} {pos : Pos}
/-- a state to begin with -/
theorem tM.use {σ : L2.St} {H : Hp} {Q : VK} (h : tM K mg Wx m σ H Q) {Q' : VK} (hq : ∀ v H, Q v H → Q' v H) : tM K mg Wx m σ H Q' := by
  obtain ⟨φ, M, L, R, l, h⟩ := h
  exact ⟨φ, M, L, R, l, h.imp hq fun _ _ _ z => z⟩

/-! ### names, constants -/
theorem me_var (i : Nat) {x : Str} {pos : Pos} (hN : X.N[i]? = some x := by rfl) (hv : Vis X.env.scope x := by first | exact Or.inl rfl | exact Or.inr (Or.inl rfl) | exact Or.inr (Or.inr rfl)) (hd : (x == ("__debug__" : Str)) = false := by decide)
    (hcd : (x == ("__classdict__" : Str)) = false := by decide) : ME X Wx (.Name x pos) (eVar i) := (pe_var hN hv hd hcd).imp fun σ H Q h => by
  obtain ⟨φ, M, L, R, l, h⟩ := h
  unfold eVar at h
  split at h
  · rename_i w e
    obtain ⟨v, e1, r⟩ := l.2 i w e
    exact ⟨v, e1, h.here R r⟩
  · exact h.elim
theorem me_con {v : V} {w : W} (h : PE X e (tC v)) (r : ∀ φ H, VR X.K φ H v w) : ME X Wx e (eCon w) := h.imp fun σ H Q h => by
  obtain ⟨φ, M, L, R, l, h⟩ := h
  exact Res.here h R (r φ H)
theorem me_int {i j pos} : ME X Wx (.Constant (.int i) j pos) (eCon (.int i)) := me_con pe_int fun _ _ => .d (.int i)
theorem me_bool {b j pos} : ME X Wx (.Constant (.bool b) j pos) (eCon (.bool b)) := me_con pe_bl fun _ _ => .d (.bl b)
theorem me_none {j pos} : ME X Wx (.Constant .none j pos) (eCon .non) := me_con pe_non fun _ _ => .d .non
theorem me_str {x j pos} (ok : PyData.strOk x = true := by decide +kernel) : ME X Wx (.Constant (.str x) j pos) (eCon (.str x)) := me_con pe_str fun _ _ => .d (.str x ok)

/-! ### sequences of expressions -/
theorem tM_bind {f : W → Hh → R W} {σ : L2.St} {H : Hp} {Q : VK} (h : tM K mg Wx (fun L M => (m L M).bind fun w M => f w M) σ H Q) :
    tM K mg Wx m σ H (fun v H1 => ∃ φ1 M1 w, Rel K mg φ1 M1 H1 ∧ VR K φ1 H1 v w ∧ Res K mg (VR K) φ1 H1 (f w M1) Q (fun c d H' => Wx c d σ H')) := by
  obtain ⟨φ, M, L, R, l, h⟩ := h
  exact ⟨φ, M, L, R, l, (Res.seq h).imp (fun v H ⟨φ1, M1, w, h1, h2, _, _, h3⟩ => ⟨φ1, M1, w, h1, h2, h3⟩) fun _ _ _ z => z⟩
theorem ma_nil : MA X Wx [] aNil := pa_nil.imp fun σ H Q h => by
  obtain ⟨φ, M, L, R, l, h⟩ := h
  exact Res.here h R .nil
theorem ma_cons {mr : AM} (ha : ME X Wx e m) (hr : MA X Wx es mr) (hs : starEach (e :: es) X.env = (false, eval e X.env) :: starEach es X.env := by rfl) : MA X Wx (e :: es) (aCons m mr) := (pa_cons ha hr hs).imp fun σ H Q h => by
  obtain ⟨φ, M, L, R, l, h⟩ := h
  refine ⟨φ, M, L, R, l, (Res.seq h).imp (fun v H1 ⟨φ1, M1, w, R1, r1, e1, t1, h1⟩ => ?_) fun _ _ _ z => z⟩
  refine ⟨φ1, M1, L, R1, l.mono e1 t1, (Res.seq h1).imp (fun vs H2 ⟨φ2, M2, ws, R2, r2, e2, t2, h2⟩ => ?_) fun _ _ _ z => z⟩
  exact Res.here h2 R2 (.cons (r1.mono e2 t2) r2)
theorem me_op {op : Operator} {f : Op2} (ho : OpR X (binaryOp op) (rel2 X.K X.mg f)) (ha : ME X Wx a ma) (hb : ME X Wx b mb) : ME X Wx (.BinOp a op b pos) (eOp2 f ma mb) := (pe_op ho ha hb).imp fun σ H Q h => by
  obtain ⟨φ, M, L, R, l, h⟩ := h
  refine ⟨φ, M, L, R, l, (Res.seq h).imp (fun v H1 ⟨φ1, M1, w, R1, r1, e1, t1, h1⟩ => ?_) fun _ _ _ z => z⟩
  refine ⟨φ1, M1, L, R1, l.mono e1 t1, (Res.seq h1).imp (fun v2 H2 ⟨φ2, M2, w2, R2, r2, e2, t2, h2⟩ => ?_) fun _ _ _ z => z⟩
  exact ⟨φ2, M2, w, w2, R2, r1.mono e2 t2, r2, h2.of0⟩
theorem me_cmp {op : CmpOp} {f : Op2} (ho : OpR X (compareOp op) (rel2 X.K X.mg f)) (ha : ME X Wx a ma) (hb : ME X Wx b mb) (hm : behindInMarks op b = false := by first | exact nobehind _ (by decide) (by decide) | rfl) : ME X Wx (.Compare a [op] [b] pos) (eOp2 f ma mb) := (pe_cmpR ho ha hb hm).imp fun σ H Q h => by
  obtain ⟨φ, M, L, R, l, h⟩ := h
  refine ⟨φ, M, L, R, l, (Res.seq h).imp (fun v H1 ⟨φ1, M1, w, R1, r1, e1, t1, h1⟩ => ?_) fun _ _ _ z => z⟩
  refine ⟨φ1, M1, L, R1, l.mono e1 t1, (Res.seq h1).imp (fun v2 H2 ⟨φ2, M2, w2, R2, r2, e2, t2, h2⟩ => ?_) fun _ _ _ z => z⟩
  exact ⟨φ2, M2, w, w2, R2, r1.mono e2 t2, r2, h2.of0⟩
theorem me_un {op : UnaryOp} {f : Op1} (ho : UnR X (unaryOp op) (rel1 X.K X.mg f)) (ha : ME X Wx a ma) : ME X Wx (.UnaryOp op a pos) (eOp1 f ma) := (pe_un ho ha).imp fun σ H Q h => by
  obtain ⟨φ, M, L, R, l, h⟩ := h
  refine ⟨φ, M, L, R, l, (Res.seq h).imp (fun v H1 ⟨φ1, M1, w, R1, r1, e1, t1, h1⟩ => ?_) fun _ _ _ z => z⟩
  exact ⟨φ1, M1, w, R1, r1, h1.of0⟩
theorem me_ix {f : Op2} (hr : IxR X (rel2 X.K X.mg f)) (ha : ME X Wx a ma) (hb : ME X Wx b mb) (hs : PlainIx b := by exact fun _ _ => rfl) : ME X Wx (.Subscript a b pos) (eOp2 f ma mb) := (pe_ix hr ha hb hs).imp fun σ H Q h => by
  obtain ⟨φ, M, L, R, l, h⟩ := h
  refine ⟨φ, M, L, R, l, (Res.seq h).imp (fun v H1 ⟨φ1, M1, w, R1, r1, e1, t1, h1⟩ => ?_) fun _ _ _ z => z⟩
  refine ⟨φ1, M1, L, R1, l.mono e1 t1, (Res.seq h1).imp (fun v2 H2 ⟨φ2, M2, w2, R2, r2, e2, t2, h2⟩ => ?_) fun _ _ _ z => z⟩
  exact ⟨φ2, M2, w, w2, R2, r1.mono e2 t2, r2, h2.of0⟩
/-- a built-in function, a built-in class, called -/
theorem me_callB {id : String} {x : Str} {f : OpN} {mr : AM} {p : Pos} (hc : CallR X (.builtin id) (relN X.K X.mg f)) (hg : Gl X x) (hm : X.mg x = none) (ha : MA X Wx (e :: es) mr) (hv : bootBuiltins x = some (.builtin id) := by decide +kernel) (hn : x ≠ "__name__" := by decide) (hdb : (x == ("__debug__" : Str)) = false := by decide)
    (he : starEach (e :: es) X.env = (false, eval e X.env) :: starEach es X.env := by rfl) (hpl : (backTo pos (starEach es X.env)).any (·.1) = false := by rfl) : ME X Wx (.Call (.Name x p) (e :: es) [] pos) (eOpN f mr) := (pe_callB hc hg hm hv ha hn hdb he hpl).imp fun σ H Q h => by
  obtain ⟨φ, M, L, R, l, h⟩ := h
  refine ⟨φ, M, L, R, l, (Res.seq h).imp (fun v H1 ⟨φ1, M1, w, R1, r1, e1, t1, h1⟩ => ?_) fun _ _ _ z => z⟩
  exact ⟨φ1, M1, w, R1, r1, h1.of0⟩
theorem me_callTy {T : String} {x : Str} {f : OpN} {mr : AM} {p : Pos} (hc : CallR X (.type T) (relN X.K X.mg f)) (hg : Gl X x) (hm : X.mg x = none) (ha : MA X Wx (e :: es) mr) (hv : bootBuiltins x = some (.type T) := by decide +kernel) (hn : x ≠ "__name__" := by decide) (hdb : (x == ("__debug__" : Str)) = false := by decide)
    (he : starEach (e :: es) X.env = (false, eval e X.env) :: starEach es X.env := by rfl) (hpl : (backTo pos (starEach es X.env)).any (·.1) = false := by rfl) : ME X Wx (.Call (.Name x p) (e :: es) [] pos) (eOpN f mr) := (pe_callTy hc hg hm hv ha hn hdb he hpl).imp fun σ H Q h => by
  obtain ⟨φ, M, L, R, l, h⟩ := h
  refine ⟨φ, M, L, R, l, (Res.seq h).imp (fun v H1 ⟨φ1, M1, w, R1, r1, e1, t1, h1⟩ => ?_) fun _ _ _ z => z⟩
  exact ⟨φ1, M1, w, R1, r1, h1.of0⟩

/-! ### displays -/
/-- a display of a tuple: nobody writes at it -/
theorem pe_tupF {x1} {t : TA} (h : PA X es t) : PE X (.Tuple es x1 pos) (fun σ H Q => t σ H fun vs H1 => vs.length ≤ sizeLine ∧ ∀ (its : List Value) (p : Addr), H1 p = none → Q (.ref p) (upd H1 p (.frz (plT its) (.tup vs)))) := by
  refine ⟨fun pins s σ H Q I hq => ?_⟩
  refine wpAny_Tuple_spliced (thn (h.run pos pins s σ H _ I hq) fun us sB ⟨vs, HB, IB, r, hz, q⟩ => ⟨by rw [← r.length]; exact hz, ?_⟩)
  have fr : HB sB.heap.objs.size = none := IB.hok.fresh (Nat.le_refl _)
  have new := Heap.get?_push_size sB.heap (o := plT us) rfl
  exact ⟨.ref sB.heap.objs.size, _, IB.laid (t' := sB.toks) (o := .frz (plT us) (.tup vs)) (fun _ _ e => Heap.get?_push_of_some _ e) (Nat.le_refl _) ⟨new, hz, us, r, ⟨_, new, rfl, _, rfl⟩⟩, rfl, q us _ fr⟩
theorem me_tup {mr : AM} {x1} (h : MA X Wx es mr) : ME X Wx (.Tuple es x1 pos) (eTup mr) := (pe_tupF h).imp fun σ H Q h => by
  obtain ⟨φ, M, L, R, l, h⟩ := h
  refine ⟨φ, M, L, R, l, (Res.seq h).imp (fun vs H1 ⟨φ1, M1, ws, R1, r1, e1, t1, h1⟩ => ?_) fun _ _ _ z => z⟩
  have hl := r1.length
  split at h1
  · rename_i hz
    refine ⟨by rw [hl]; exact hz, fun its p np => ?_⟩
    exact h1 φ1 _ _ (R1.other np) (VR.mkTup ⟨its, upd_same⟩ (r1.mono .refl (.laid np))) .refl (.laid np)
  · exact h1.elim
theorem me_lst {mr : AM} (h : MA X Wx es mr) : ME X Wx (.List es pos) (eLst mr) := (pe_lst h).imp fun σ H Q h => by
  obtain ⟨φ, M, L, R, l, h⟩ := h
  refine ⟨φ, M, L, R, l, (Res.seq h).imp (fun vs H1 ⟨φ1, M1, ws, R1, r1, e1, t1, h1⟩ => ?_) fun _ _ _ z => z⟩
  have hl := r1.length
  split at h1
  · rename_i hz
    refine ⟨by rw [hl]; exact hz, fun p np => ?_⟩
    refine h1 (φ1 ++ [p]) _ _ (R1.new np ⟨vs, upd_same, r1.mono .app (.laid np)⟩) (.ref ?_) .app (.laid np)
    rw [← R1.len]; simp
  · exact h1.elim

/-! ### tests, and, or, not, if -/
theorem asBool_VR {φ : Phi} {H : Hp} {v : V} {w : W} {k : Bool} (r : VR K φ H v w) (h : asBool w = some k) : v = .bl k := by
  cases r with
  | d r => cases r <;> simp [asBool] at h; subst h; rfl
  | ref _ => cases h
  | mix _ _ => cases h
theorem mt_val (h : ME X Wx e m) (he : ∀ whole, isTrue e X.env whole = (do let v ← whole; standAt e.pos; holding [v] (truthy v)) := by intro _; rfl) : MT X Wx e (tVal m) := (pt_val h he).imp fun σ H Q h => by
  obtain ⟨φ, M, L, R, l, h⟩ := h
  refine ⟨φ, M, L, R, l, (Res.seq h).imp (fun v H1 ⟨φ1, M1, w, R1, r1, e1, t1, h1⟩ => ?_) fun _ _ _ z => z⟩
  cases hb : asBool w with
  | none => simp only [hb] at h1; exact h1.elim
  | some k => simp only [hb] at h1; exact ⟨k, asBool_VR r1 hb, Res.here h1 R1 rfl⟩
theorem mt_cmp {op : CmpOp} {f : Op2} (ho : OpR X (compareOp op) (rel2 X.K X.mg f)) (ha : ME X Wx a ma) (hb : ME X Wx b mb) (hm : behindInMarks op b = false := by first | exact nobehind _ (by decide) (by decide) | rfl) : MT X Wx (.Compare a [op] [b] pos) (tVal (eOp2 f ma mb)) := by
  refine L2.PT.imp (t := tB (tM X.K X.mg Wx (eOp2 f ma mb))) ?_ ?_
  · refine ⟨fun pins s σ H Q I hw => ?_⟩
    refine (pt_cmp (t := tM X.K X.mg Wx (eOp2 f ma mb)) ⟨fun pins s σ H Q I h => ?_⟩ hm).run pins s σ H Q I hw
    obtain ⟨φ, M, L, R, l, h⟩ := h
    refine binT ha hb I (R := fun x y H => rel2 X.K X.mg f x y H Q) ?_ fun v u s2 x y H2 I2 rx ry q => ho pins s2 σ H2 x y v u Q I2 rx ry q
    refine ⟨φ, M, L, R, l, (Res.seq h).imp (fun v H1 ⟨φ1, M1, w, R1, r1, e1, t1, h1⟩ => ?_) fun _ _ _ z => z⟩
    refine ⟨φ1, M1, L, R1, l.mono e1 t1, (Res.seq h1).imp (fun v2 H2 ⟨φ2, M2, w2, R2, r2, e2, t2, h2⟩ => ?_) fun _ _ _ z => z⟩
    exact ⟨φ2, M2, w, w2, R2, r1.mono e2 t2, r2, h2.of0⟩
  · intro σ H Q h
    obtain ⟨φ, M, L, R, l, h⟩ := h
    refine ⟨φ, M, L, R, l, (Res.seq h).imp (fun v H1 ⟨φ1, M1, w, R1, r1, e1, t1, h1⟩ => ?_) fun _ _ _ z => z⟩
    cases hb : asBool w with
    | none => simp only [hb] at h1; exact h1.elim
    | some k => simp only [hb] at h1; exact ⟨k, asBool_VR r1 hb, Res.here h1 R1 rfl⟩
variable {t u : TM}
theorem mw_and1 (ha : MT X Wx a t) : MWt X Wx (.BoolOp .And [a] pos) t := pw_and1 ha
theorem mw_or1 (ha : MT X Wx a t) : MWt X Wx (.BoolOp .Or [a] pos) t := pw_or1 ha
theorem mw_and {rest : List Expr} (ha : MT X Wx a t) (hb : MWt X Wx (.BoolOp .And (b :: rest) pos) u) : MWt X Wx (.BoolOp .And (a :: b :: rest) pos) (tAnd t u) := (pw_and ha hb).imp fun σ H Q h => by
  obtain ⟨φ, M, L, R, l, h⟩ := h
  refine ⟨φ, M, L, R, l, (Res.seq h).imp (fun v H1 ⟨φ1, M1, w, R1, r1, e1, t1, h1⟩ => ?_) fun _ _ _ z => z⟩
  obtain rfl : v = w := r1
  cases v with
  | true => rw [if_pos rfl] at h1 ⊢; exact ⟨φ1, M1, L, R1, l.mono e1 t1, h1⟩
  | false => rw [if_neg Bool.false_ne_true] at h1 ⊢; exact Res.here h1 R1 rfl
theorem mw_or {rest : List Expr} (ha : MT X Wx a t) (hb : MWt X Wx (.BoolOp .Or (b :: rest) pos) u) : MWt X Wx (.BoolOp .Or (a :: b :: rest) pos) (tOr t u) := (pw_or ha hb).imp fun σ H Q h => by
  obtain ⟨φ, M, L, R, l, h⟩ := h
  refine ⟨φ, M, L, R, l, (Res.seq h).imp (fun v H1 ⟨φ1, M1, w, R1, r1, e1, t1, h1⟩ => ?_) fun _ _ _ z => z⟩
  obtain rfl : v = w := r1
  cases v with
  | true => rw [if_pos rfl] at h1 ⊢; exact Res.here h1 R1 rfl
  | false => rw [if_neg Bool.false_ne_true] at h1 ⊢; exact ⟨φ1, M1, L, R1, l.mono e1 t1, h1⟩
theorem mt_w {h : Expr} (q : MWt X Wx h t) : MT X Wx h t := PW.pt q
theorem mt_not (ha : MT X Wx a t) : MT X Wx (.UnaryOp .Not a pos) (tNot t) := (pt_not ha).imp fun σ H Q h => by
  obtain ⟨φ, M, L, R, l, h⟩ := h
  refine ⟨φ, M, L, R, l, (Res.seq h).imp (fun v H1 ⟨φ1, M1, w, R1, r1, e1, t1, h1⟩ => ?_) fun _ _ _ z => z⟩
  obtain rfl : v = w := r1
  exact Res.here h1 R1 rfl
theorem me_one {op} (h : ME X Wx a ma) : ME X Wx (.BoolOp op [a] pos) ma := pe_one h
theorem me_and {rest : List Expr} (ha : ME X Wx a ma) (hb : ME X Wx (.BoolOp .And (b :: rest) pos) mb) : ME X Wx (.BoolOp .And (a :: b :: rest) pos) (eAnd ma mb) := (pe_and ha hb).imp fun σ H Q h => by
  obtain ⟨φ, M, L, R, l, h⟩ := h
  refine ⟨φ, M, L, R, l, (Res.seq h).imp (fun v H1 ⟨φ1, M1, w, R1, r1, e1, t1, h1⟩ => ?_) fun _ _ _ z => z⟩
  cases hb : asBool w with
  | none => simp only [hb] at h1; exact h1.elim
  | some k =>
    simp only [hb] at h1
    refine ⟨k, asBool_VR r1 hb, ?_⟩
    cases k with
    | true => rw [if_pos rfl]; exact ⟨φ1, M1, L, R1, l.mono e1 t1, h1⟩
    | false => rw [if_neg Bool.false_ne_true]; exact Res.here h1 R1 (.d (.bl false))
theorem me_or {rest : List Expr} (ha : ME X Wx a ma) (hb : ME X Wx (.BoolOp .Or (b :: rest) pos) mb) : ME X Wx (.BoolOp .Or (a :: b :: rest) pos) (eOr ma mb) := (pe_or ha hb).imp fun σ H Q h => by
  obtain ⟨φ, M, L, R, l, h⟩ := h
  refine ⟨φ, M, L, R, l, (Res.seq h).imp (fun v H1 ⟨φ1, M1, w, R1, r1, e1, t1, h1⟩ => ?_) fun _ _ _ z => z⟩
  cases hb : asBool w with
  | none => simp only [hb] at h1; exact h1.elim
  | some k =>
    simp only [hb] at h1
    refine ⟨k, asBool_VR r1 hb, ?_⟩
    cases k with
    | true => rw [if_pos rfl]; exact Res.here h1 R1 (.d (.bl true))
    | false => rw [if_neg Bool.false_ne_true]; exact ⟨φ1, M1, L, R1, l.mono e1 t1, h1⟩
theorem me_not (ha : ME X Wx a ma) : ME X Wx (.UnaryOp .Not a pos) (eNot ma) := (pe_not ha).imp fun σ H Q h => by
  obtain ⟨φ, M, L, R, l, h⟩ := h
  refine ⟨φ, M, L, R, l, (Res.seq h).imp (fun v H1 ⟨φ1, M1, w, R1, r1, e1, t1, h1⟩ => ?_) fun _ _ _ z => z⟩
  cases hb : asBool w with
  | none => simp only [hb] at h1; exact h1.elim
  | some k => simp only [hb] at h1; exact ⟨k, asBool_VR r1 hb, Res.here h1 R1 (.d (.bl _))⟩
theorem me_if (hc : MT X Wx c t) (ha : ME X Wx a ma) (hb : ME X Wx b mb) : ME X Wx (.IfExp c a b pos) (eIf t ma mb) := (pe_ifExp hc ha hb).imp fun σ H Q h => by
  obtain ⟨φ, M, L, R, l, h⟩ := h
  refine ⟨φ, M, L, R, l, (Res.seq h).imp (fun v H1 ⟨φ1, M1, w, R1, r1, e1, t1, h1⟩ => ?_) fun _ _ _ z => z⟩
  obtain rfl : v = w := r1
  cases v with
  | true => rw [if_pos rfl] at h1 ⊢; exact ⟨φ1, M1, L, R1, l.mono e1 t1, h1⟩
  | false => rw [if_neg Bool.false_ne_true] at h1 ⊢; exact ⟨φ1, M1, L, R1, l.mono e1 t1, h1⟩
theorem tChain_of {f g : Op2} {σ : L2.St} {H : Hp} {Q : VK} (h : tM K mg Wx (eChain f g ma mb mc) σ H Q) : tChain (rel2 K mg f) (rel2 K mg g) (tM K mg Wx ma) (tM K mg Wx mb) (tM K mg Wx mc) σ H Q := by
  obtain ⟨φ, M, L, R, l, h⟩ := h
  refine ⟨φ, M, L, R, l, (Res.seq h).imp (fun v H1 ⟨φ1, M1, w, R1, r1, e1, t1, h1⟩ => ?_) fun _ _ _ z => z⟩
  refine ⟨φ1, M1, L, R1, l.mono e1 t1, (Res.seq h1).imp (fun v2 H2 ⟨φ2, M2, w2, R2, r2, e2, t2, h2⟩ => ?_) fun _ _ _ z => z⟩
  refine ⟨φ2, M2, w, w2, R2, r1.mono e2 t2, r2, (Res.seq h2).of0.imp (fun v3 H3 ⟨φ3, M3, w3, R3, r3, e3, t3, h3⟩ => ?_) fun _ _ _ z => z⟩
  cases hk : asBool w3 with
  | none => simp only [hk] at h3; exact h3.elim
  | some k =>
    simp only [hk] at h3
    refine ⟨k, asBool_VR r3 hk, ?_⟩
    cases k with
    | false => rw [if_neg Bool.false_ne_true]; exact Res.here h3 R3 (.d (.bl false))
    | true =>
      rw [if_pos rfl]
      refine ⟨φ3, M3, L, R3, l.mono (e1.trans (e2.trans e3)) (t1.trans (t2.trans t3)), (Res.seq h3).imp (fun v4 H4 ⟨φ4, M4, w4, R4, r4, e4, t4, h4⟩ => ?_) fun _ _ _ z => z⟩
      exact ⟨φ4, M4, w2, w4, R4, r2.mono (e3.trans e4) (t3.trans t4), r4, h4.of0⟩
theorem me_chain {op op' : CmpOp} {f g : Op2} (ho : OpR X (compareOp op) (rel2 X.K X.mg f)) (ho' : OpR X (compareOp op') (rel2 X.K X.mg g)) (ha : ME X Wx a ma) (hb : ME X Wx b mb) (hc : ME X Wx c mc)
    (hm : lastMarks [op, op'] [b, c] = false := by with_unfolding_all rfl) : ME X Wx (.Compare a [op, op'] [b, c] pos) (eChain f g ma mb mc) := (pe_chain ho ho' ha hb hc hm).imp fun σ H Q h => tChain_of h
end
end Mi
end

section
set_option maxHeartbeats 4000000
/-! MiR2: what is left behind a call, defs and their calls, what is walked, comprehensions, statements. -/
namespace Mi
open PySem PySem.Spec PyProof.Rows L2

section
variable {K : Fr} {mg : Mg} {H H' : Hp} {φ φ' : Phi} {M M' : Hh}
/-! ### what is left behind a call -/
mutual
theorem VR.und {n : Nat} (hn : φ.length ≤ n) : ∀ {v : V} {w : W}, VR K φ H v w → w.und n = true
  | _, _, .d _ => by simp
  | _, _, .ref h => by
    have := (List.getElem?_eq_some_iff.mp h).1
    simp; omega
  | _, _, .mix _ r => by
    unfold W.und
    exact VRs.unds hn r
theorem VRs.unds {n : Nat} (hn : φ.length ≤ n) : ∀ {vs : List V} {ws : List W}, VRs K φ H vs ws → W.unds n ws = true
  | _, _, .nil => rfl
  | _, _, .cons r s => by
    unfold W.unds
    rw [VR.und hn r, VRs.unds hn s]
    rfl
end
mutual
theorem VR.cut {n : Nat} : ∀ {v : V} {w : W}, VR K φ H v w → w.und n = true → VR K (φ.take n) H v w
  | _, _, .d r, _ => .d r
  | _, _, .ref (i := i) h, q => .ref (by
    have q' : i < n := by simpa using q
    rw [List.getElem?_take_of_lt q']; exact h)
  | _, _, .mix s r, q => .mix s (VRs.cut r (by unfold W.und at q; exact q))
theorem VRs.cut {n : Nat} : ∀ {vs : List V} {ws : List W}, VRs K φ H vs ws → W.unds n ws = true → VRs K (φ.take n) H vs ws
  | _, _, .nil, _ => .nil
  | _, _, .cons r s, q => by
    unfold W.unds at q
    obtain ⟨q1, q2⟩ := Bool.and_eq_true_iff.mp q
    exact .cons (VR.cut r q1) (VRs.cut s q2)
end
theorem unds_all {n : Nat} : ∀ {ws : List W}, ws.all (W.und n) = W.unds n ws
  | [] => rfl
  | w :: ws => by
    unfold W.unds
    rw [List.all_cons, unds_all]
theorem unds_snd {κ : Type} {n : Nat} : ∀ {ws : List (κ × W)}, (ws.all fun kv => kv.2.und n) = W.unds n (ws.map (·.2))
  | [] => rfl
  | w :: ws => by
    rw [List.map_cons]
    unfold W.unds
    rw [List.all_cons, unds_snd]
theorem OR.und {n : Nat} (hn : φ.length ≤ n) {a : Addr} {o : O} (h : OR K mg φ H a o) : o.und n = true := by
  cases o with
  | lst ws => obtain ⟨_, _, r⟩ := h; simp only [O.und]; rw [unds_all]; exact r.unds hn
  | dk kvs => obtain ⟨_, _, _, r⟩ := h; simp only [O.und]; rw [unds_snd]; exact r.unds hn
  | dt kvs => obtain ⟨_, _, _, r⟩ := h; simp only [O.und]; rw [unds_snd]; exact r.unds hn
  | ins c fs => obtain ⟨_, _, _, _, _, _, r⟩ := h; simp only [O.und]; rw [unds_snd]; exact r.unds hn
theorem OR.cut {n : Nat} {a : Addr} {o : O} (h : OR K mg φ H a o) (q : o.und n = true) : OR K mg (φ.take n) H a o := by
  cases o with
  | lst ws => obtain ⟨x, y, r⟩ := h; simp only [O.und] at q; rw [unds_all] at q; exact ⟨x, y, r.cut q⟩
  | dk kvs => obtain ⟨x, y, z, r⟩ := h; simp only [O.und] at q; rw [unds_snd] at q; exact ⟨x, y, z, r.cut q⟩
  | dt kvs => obtain ⟨x, y, z, r⟩ := h; simp only [O.und] at q; rw [unds_snd] at q; exact ⟨x, y, z, r.cut q⟩
  | ins c fs => obtain ⟨x, y, z, u, v, t, r⟩ := h; simp only [O.und] at q; rw [unds_snd] at q; exact ⟨x, y, z, u, v, t, r.cut q⟩
theorem Rel.cut (R : Rel K mg φ M H) (n : Nat) (q : (M.take n).all (O.und n) = true) : Rel K mg (φ.take n) (M.take n) H := by
  refine ⟨by simp [R.len], fun i j a h1 h2 => ?_, fun i a o h1 h2 => ?_⟩
  · rw [List.getElem?_take] at h1 h2
    split at h1
    · split at h2
      · exact R.nd i j a h1 h2
      · cases h2
    · cases h1
  · have hm : o ∈ M.take n := List.mem_of_getElem? h2
    have ho := List.all_eq_true.mp q o hm
    rw [List.getElem?_take] at h1 h2
    split at h1
    · rename_i hi
      rw [if_pos hi] at h2
      exact (R.ob i a o h1 h2).cut ho
    · cases h1
theorem Rel.all (R : Rel K mg φ M H) : M.all (O.und M.length) = true := by
  refine List.all_eq_true.mpr fun o ho => ?_
  obtain ⟨i, hi⟩ := List.mem_iff_getElem?.mp ho
  obtain ⟨a, _, q⟩ := R.at hi
  exact q.und (Nat.le_of_eq R.len)
theorem Ext.take (R : Rel K mg φ M H) (e : Ext φ φ') : Ext φ (φ'.take M.length) := fun i a h => by
  have hi : i < M.length := by rw [← R.len]; exact (List.getElem?_eq_some_iff.mp h).1
  rw [List.getElem?_take_of_lt hi]
  exact e i a h
theorem gc_rel (R : Rel K mg φ M H) (R' : Rel K mg φ' M' H') (e : Ext φ φ') {v : V} {w : W} (r : VR K φ' H' v w) : ∃ ψ, Rel K mg ψ (gc M w M') H' ∧ VR K ψ H' v w ∧ Ext φ ψ := by
  unfold gc
  split
  · rename_i c
    obtain ⟨hw, c⟩ := c
    refine ⟨φ'.take M.length, R'.cut _ ?_, r.cut hw, .take R e⟩
    rcases c with c | c
    · rw [c]; exact R.all
    · exact c.1
  · exact ⟨φ', R', r, e⟩
end

section
variable {X : Cx} {Wx : WX} {K : Fr} {mg : Mg} {e a b c : Expr} {es : List Expr} {m ma mb mc : EM} {pos : Pos}
theorem me_gc (h : ME X Wx e m) : ME X Wx e (eGc m) := h.imp fun σ H Q h => by
  obtain ⟨φ, M, L, R, l, h⟩ := h
  refine ⟨φ, M, L, R, l, ?_⟩
  unfold eGc at h
  cases hm : m L M with
  | bad => rw [hm] at h; exact h
  | ex x M' => rw [hm] at h; exact h
  | ok w M' =>
    rw [hm] at h
    intro φ' H' v R' r e t
    dsimp only [Mi.R.bind] at h
    split at h
    · rename_i c
      refine h (φ'.take M.length) H' v ?_ (r.cut c.1) (.take R e) t
      have := R'.cut M.length (by rw [c.2]; exact R.all)
      rw [c.2] at this
      exact this
    · exact h φ' H' v R' r e t

/-! ### a def's promise -/
def SPf (K : Fr) (mg : Mg) (F : Fn) : Sp := fun vs H Q E => ∃ φ M ws, Rel K mg φ M H ∧ VRs K φ H vs ws ∧ Res K mg (VR K) φ H (F ws M) Q E
/-- the judgement of statements -/
def ResS (K : Fr) (mg : Mg) (Wx : WX) (D : Ends) (φ : Phi) (H : Hp) (out : Out) : Prop := match out with
  | .nx L M' => ∀ φ' H' σ', Rel K mg φ' M' H' → LR K φ' H' σ' L → Ext φ φ' → TK K H H' → D.nx σ' H'
  | .rt w M' => ∀ φ' H' v, Rel K mg φ' M' H' → VR K φ' H' v w → Ext φ φ' → TK K H H' → D.rt v H'
  | .bk L M' => ∀ φ' H' σ', Rel K mg φ' M' H' → LR K φ' H' σ' L → Ext φ φ' → TK K H H' → D.bk σ' H'
  | .ct L M' => ∀ φ' H' σ', Rel K mg φ' M' H' → LR K φ' H' σ' L → Ext φ φ' → TK K H H' → D.ct σ' H'
  | .ex x L M' => ∀ φ' H' σ' cls d, Rel K mg φ' M' H' → LR K φ' H' σ' L → ER K mg H' cls d x → Ext φ φ' → TK K H H' → Wx cls d σ' H'
  | .bad => False
def tS (K : Fr) (mg : Mg) (Wx : WX) (m : SM) : TS := fun D σ H => ∃ φ M L, Rel K mg φ M H ∧ LR K φ H σ L ∧ ResS K mg Wx D φ H (m L M)
abbrev MS (X : Cx) (Wx : WX) (st : Stmt) (m : SM) : Prop := PS X st (tS X.K X.mg Wx m)
abbrev MSs (X : Cx) (Wx : WX) (st : List Stmt) (m : SM) : Prop := PSs X st (tS X.K X.mg Wx m)
theorem ResS.mono {D : Ends} {φ φ' : Phi} {H H' : Hp} {out : Out} (h : ResS K mg Wx D φ H out) (e : Ext φ φ') (t : TK K H H') : ResS K mg Wx D φ' H' out := by
  cases out with
  | nx L M' => exact fun φ2 H2 v R r e2 t2 => h φ2 H2 v R r (e.trans e2) (t.trans t2)
  | rt L M' => exact fun φ2 H2 v R r e2 t2 => h φ2 H2 v R r (e.trans e2) (t.trans t2)
  | bk L M' => exact fun φ2 H2 v R r e2 t2 => h φ2 H2 v R r (e.trans e2) (t.trans t2)
  | ct L M' => exact fun φ2 H2 v R r e2 t2 => h φ2 H2 v R r (e.trans e2) (t.trans t2)
  | ex x L M' => exact fun φ2 H2 s c d R r q e2 t2 => h φ2 H2 s c d R r q (e.trans e2) (t.trans t2)
  | bad => exact h
/-- an expression, then what a statement does with it -/
theorem Res.then {α β : Type} {rel : Phi → Hp → β → α → Prop} {D : Ends} {φ : Phi} {H : Hp} {σ : L2.St} {L : Loc} {out : R α} {f : α → Hh → Out} (l : LR K φ H σ L) (h : ResS K mg Wx D φ H (out.then L f)) :
    Res K mg rel φ H out (fun v H1 => ∃ φ1 M1 w, Rel K mg φ1 M1 H1 ∧ rel φ1 H1 v w ∧ Ext φ φ1 ∧ TK K H H1 ∧ ResS K mg Wx D φ1 H1 (f w M1)) (fun c d H' => Wx c d σ H') := by
  cases out with
  | ok w M' => exact fun φ2 H2 v R r e2 t2 => ⟨φ2, M', w, R, r, e2, t2, ResS.mono h e2 t2⟩
  | ex x M' => exact fun φ2 H2 c d R r e2 t2 => h φ2 H2 σ c d R (l.mono e2 t2) r e2 t2
  | bad => exact h
/-- a def that is never used -/
theorem fnOk_bad {P : Program} {w : World} {base : Heap} {CX : CXT} {k : Nat} {f : Addr} {fd : FuncData} {ps : List Str} : FnOk P w K mg base CX k f fd ps (SPf K mg fun _ _ => .bad) :=
  ⟨fun _ _ _ _ ⟨_, _, _, _, _, h⟩ => h.elim, fun _ _ _ _ _ _ _ _ _ _ _ _ _ ⟨_, _, _, _, _, h⟩ => h.elim⟩
theorem fnOk_fn {P : Program} {w : World} {base : Heap} {x qual : Str} {st : Stmt} {f : Addr} {fd : FuncData} {N ps : List Str} {k : Nat} {body : SM} (F : Fun K x qual st f fd) (S : FnScope N ps (defScope st))
    (hb : ∀ (cdv : Value) (A : Around) (outer : List Env) (s : Shared) (H : Hp) (E : XK), Room k (A.deeper (envOfC qual (defScope st) s.heap.objs.size f cdv)) →
      MSs (cxOf (L2.CX P w) P w K mg base N qual (defScope st) f cdv A outer s H E) (fun cls d _ H => E cls d H) (defBody st) body) :
    FnOk P w K mg base (L2.CX P w) (k + 1) f fd ps (SPf K mg (fn ps.length N.length body)) := by
  refine F.okX S (fun vs H Q E h => ?_) fun cdv A outer s H vs Q E hr h => ⟨_, hb cdv A outer s H E hr, ?_⟩
  · obtain ⟨φ, M, ws, R, r, h⟩ := h
    unfold fn at h
    split at h
    · rename_i hl; rw [r.length]; exact hl
    · exact h.elim
  · obtain ⟨φ, M, ws, R, r, h⟩ := h
    refine ⟨φ, M, _, R, LR.start N r, ?_⟩
    unfold fn at h
    split at h
    · cases hbd : body (ws.map some ++ List.replicate (N.length - ws.length) none) M with
      | nx L M' =>
        rw [hbd] at h
        intro φ' H' σ' R' _ e t
        obtain ⟨ψ, R2, r2, e2⟩ := gc_rel R R' e (.d .non)
        exact h ψ H' _ R2 r2 e2 t
      | rt w M' =>
        rw [hbd] at h
        intro φ' H' v R' r' e t
        obtain ⟨ψ, R2, r2, e2⟩ := gc_rel R R' e r'
        exact h ψ H' _ R2 r2 e2 t
      | bk L M' => rw [hbd] at h; exact h.elim
      | ct L M' => rw [hbd] at h; exact h.elim
      | ex x L M' =>
        rw [hbd] at h
        exact fun φ' H' σ' c d R' _ q e t => h φ' H' c d R' q e t
      | bad => rw [hbd] at h; exact h.elim
    · exact h.elim
/-- f(e, ..) -/
theorem me_call {k : Nat} {f : Addr} {fd : FuncData} {ps : List Str} {Fm : Fn} {x : Str} {mr : AM} {p : Pos} (F : FnOk X.prog X.w X.K X.mg X.base (L2.CX X.prog X.w) k f fd ps (SPf X.K X.mg Fm)) (hr : Room k X.A) (hg : Gl X x) (hm : X.mg x = some (.ref f)) (hk : PySem.W.keepIn X.K (.ref f) = true) (hb : Binds X.K fd ps [])
    (tk : Takes X Wx) (ha : MA X Wx (e :: es) mr) (hdb : (x == ("__debug__" : Str)) = false := by decide) (he : starEach (e :: es) X.env = (false, eval e X.env) :: starEach es X.env := by rfl) (hpl : (backTo pos (starEach es X.env)).any (·.1) = false := by rfl) :
    ME X Wx (.Call (.Name x p) (e :: es) [] pos) (eCall Fm mr) := (pe_callS F hr hg hm hk hb (fun σ => passAt tk σ) ha hdb he hpl).imp fun σ H Q h => by
  obtain ⟨φ, M, L, R, l, h⟩ := h
  refine ⟨φ, M, L, R, l, (Res.seq h).imp (fun v H1 ⟨φ1, M1, w, R1, r1, e1, t1, h1⟩ => ?_) fun _ _ _ z => z⟩
  exact ⟨φ1, M1, w, R1, r1, h1⟩

/-! ### what is walked -/
def SrcR (K : Fr) (φ : Phi) (H : Hp) (J : It) : Src → Prop
  | .tp ws => (∃ a vs, J = Itt K a ∧ TupAt H a vs ∧ VRs K φ H vs ws) ∨ ∃ x, J = Its x ∧ ws = signs x ∧ PyData.strOk x = true
  | .ls i _ => ∃ a, J = Itl K a ∧ φ[i]? = some a
  | .rg lo n => J = Itr lo n
def tI (K : Fr) (mg : Mg) (Wx : WX) (m : IM) : TI := fun σ H Q => ∃ φ M L, Rel K mg φ M H ∧ LR K φ H σ L ∧ Res K mg (SrcR K) φ H (m L M) Q (fun c d H' => Wx c d σ H')
abbrev MI (X : Cx) (Wx : WX) (tg iter : Expr) (m : IM) : Prop := PI X tg iter (tI X.K X.mg Wx m)
theorem _root_.L2.PI.imp {tg iter : Expr} {t t' : TI} (h : PI X tg iter t) (i : ∀ σ H Q, t' σ H Q → t σ H Q) : PI X tg iter t' := ⟨fun pins s σ H Q I q => h.run pins s σ H Q I (i σ H Q q)⟩
theorem SrcR.mono {φ φ' : Phi} {H H' : Hp} {J : It} {s : Src} (h : SrcR K φ H J s) (e : Ext φ φ') (t : TK K H H') : SrcR K φ' H' J s := by
  cases s with
  | tp ws =>
    rcases h with ⟨a, vs, j, q, r⟩ | h
    · exact .inl ⟨a, vs, j, q.mono t, r.mono e t⟩
    · exact .inr h
  | ls i ws => obtain ⟨a, j, q⟩ := h; exact ⟨a, j, e _ _ q⟩
  | rg lo n => exact h
theorem SrcR.stop {φ : Phi} {M : Hh} {H : Hp} {J : It} {s : Src} (R : Rel K mg φ M H) (h : SrcR K φ H J s) (ok : s.ok M) {i : Nat} (hi : s.items.length ≤ i) : J.stop i H := by
  cases s with
  | tp ws =>
    rcases h with ⟨a, vs, rfl, q, r⟩ | ⟨x, rfl, rfl, _⟩
    · exact ⟨vs, q.sq, by rw [r.length]; exact hi⟩
    · have hi : (signs x).length ≤ i := hi
      unfold signs at hi
      have : x.cps.size ≤ i := by simpa using hi
      exact this
  | ls j ws =>
    obtain ⟨a, rfl, q⟩ := h
    obtain ⟨vs, hv, r⟩ := R.ob' ok q
    exact ⟨vs, .of hv, by rw [r.length]; exact hi⟩
  | rg lo n =>
    cases h
    have : n ≤ i := by simpa [Src.items, rgItems] using hi
    exact this
theorem SrcR.step {φ : Phi} {M : Hh} {H : Hp} {J : It} {s : Src} (R : Rel K mg φ M H) (h : SrcR K φ H J s) (ok : s.ok M) {i : Nat} {w : W} (hi : s.items[i]? = some w) :
    J.go i H ∧ ∀ x H', J.yld i H x H' → H' = H ∧ VR K φ H x w := by
  cases s with
  | tp ws =>
    rcases h with ⟨a, vs, rfl, q, r⟩ | ⟨x, rfl, rfl, okx⟩
    · obtain ⟨v, hv, rv⟩ := r.get' (show ws[i]? = some w from hi)
      exact ⟨⟨vs, v, q.sq, hv⟩, fun x H' ⟨e, z⟩ => ⟨e, by
        have := z vs q.sq
        rw [hv] at this; cases this
        exact rv⟩⟩
    · have hi : (signs x)[i]? = some w := hi
      unfold signs at hi
      rw [List.getElem?_map] at hi
      obtain ⟨c, hc, rfl⟩ := Option.map_eq_some_iff.mp hi
      rw [Array.getElem?_toList] at hc
      obtain ⟨hl, he⟩ := Array.getElem?_eq_some_iff.mp hc
      refine ⟨hl, fun y H' ⟨e, c', h1, h2⟩ => ⟨e, ?_⟩⟩
      rw [hc] at h1
      cases h1
      rw [h2]
      refine .d (.str _ ?_)
      unfold PyData.strOk at okx ⊢
      rw [Array.all_eq_true] at okx
      have := okx i hl
      rw [he] at this
      simpa using this
  | ls j ws =>
    obtain ⟨a, rfl, q⟩ := h
    obtain ⟨vs, hl, r⟩ := R.ob' ok q
    obtain ⟨v, hv, rv⟩ := r.get' (show ws[i]? = some w from hi)
    exact ⟨⟨vs, v, .of hl, hv⟩, fun x H' ⟨e, z⟩ => ⟨e, by
      have := z vs (.of hl)
      rw [hv] at this; cases this
      exact rv⟩⟩
  | rg lo n =>
    cases h
    have hi' : (rgItems lo n)[i]? = some w := hi
    unfold rgItems at hi'
    rw [List.getElem?_map] at hi'
    cases hr : (List.range n)[i]? with
    | none => rw [hr] at hi'; cases hi'
    | some j =>
      rw [hr] at hi'
      cases hi'
      obtain ⟨hl, he⟩ := List.getElem?_eq_some_iff.mp hr
      have hin : i < n := by simpa using hl
      have hj : j = i := by simpa using he.symm
      subst hj
      exact ⟨hin, fun x H' ⟨e, z⟩ => ⟨e, by rw [z]; exact .d (.int _)⟩⟩
/-- a list or a tuple, whichever comes -/
theorem pi_seq {tg l : Expr} {tl : TE} (hl : PE X l tl) : PI X tg l (fun σ H R => tl σ H fun x H1 => ∃ a, x = .ref a ∧ (((∃ xs, SqL X.K H1 a xs) ∧ R (Itl X.K a) H1) ∨ ((∃ xs, SqT X.K H1 a xs) ∧ R (Itt X.K a) H1))) := by
  refine ⟨fun pins s σ H Rr I hyp => thn (hl.run pins s σ H _ I hyp) fun val st1 ⟨x1, Ha, Ia, ra, a, ex, alt⟩ => ?_⟩
  subst ex
  cases ra
  have fresh : ∀ b ∈ [st1.heap.objs.size], FpOk X pins Ha b := fun b hb => by
    obtain rfl : b = st1.heap.objs.size := by simpa using hb
    exact Ia.fpOk (Nat.le_refl _) (Ia.hok.fresh (Nat.le_refl _))
  rcases alt with ⟨⟨xs, sq⟩, q⟩ | ⟨⟨xs, sq⟩, q⟩
  · obtain ⟨its, rv, pl, _⟩ := Ia.list sq
    refine wpAny_pyIter_list pl.isList ⟨_, _, _, _, Ha, rfl, Ia.kept (t' := st1.toks) (fun b o eb => Heap.get?_push_of_some _ eb), turn_list a _, ?_, fresh, q⟩
    exact ⟨_, Heap.get?_push_size _ rfl, rfl, rfl⟩
  · obtain ⟨its, rv, pl, _⟩ := Ia.tuple sq
    refine wpAny_pyIter_tuple (show st1.heap.IsTuple a its.toArray from pl) ⟨_, _, _, _, Ha, rfl, Ia.kept (t' := st1.toks) (fun b o eb => Heap.get?_push_of_some _ eb), turn_tuple a _, ?_, fresh, q⟩
    exact ⟨_, Heap.get?_push_size _ rfl, rfl, rfl⟩
theorem mi_seq {tg : Expr} (h : ME X Wx e m) : MI X Wx tg e (iSeq m) := (pi_seq h).imp fun σ H Q h => by
  obtain ⟨φ, M, L, R, l, h⟩ := h
  refine ⟨φ, M, L, R, l, (Res.seq h).imp (fun v H1 ⟨φ1, M1, w, R1, r1, e1, t1, h1⟩ => ?_) fun _ _ _ z => z⟩
  cases w with
  | ref i =>
    dsimp only at h1
    cases r1 with
    | ref hi =>
      split at h1
      · rename_i ws ho
        obtain ⟨vs, hv, rv⟩ := R1.ob' ho hi
        exact ⟨_, rfl, .inl ⟨⟨vs, .of hv⟩, Res.here h1 R1 ⟨_, rfl, hi⟩⟩⟩
      · exact h1.elim
  | d x =>
    dsimp only at h1
    cases hi : W.items (.d x) with
    | none => rw [hi] at h1; exact h1.elim
    | some ws =>
      rw [hi] at h1
      obtain ⟨a, vs, rfl, s, r⟩ := r1.items hi
      exact ⟨a, rfl, .inr ⟨⟨vs, s.sq⟩, Res.here h1 R1 (.inl ⟨a, vs, rfl, s, r⟩)⟩⟩
  | mix x =>
    dsimp only at h1
    cases hi : W.items (.mix x) with
    | none => rw [hi] at h1; exact h1.elim
    | some ws =>
      rw [hi] at h1
      obtain ⟨a, vs, rfl, s, r⟩ := r1.items hi
      exact ⟨a, rfl, .inr ⟨⟨vs, s.sq⟩, Res.here h1 R1 (.inl ⟨a, vs, rfl, s, r⟩)⟩⟩
theorem mi_text {tg : Expr} (h : ME X Wx e m) : MI X Wx tg e (iText m) := (pi_str h).imp fun σ H Q h => by
  obtain ⟨φ, M, L, R, l, h⟩ := h
  refine ⟨φ, M, L, R, l, (Res.seq h).imp (fun v H1 ⟨φ1, M1, w, R1, r1, e1, t1, h1⟩ => ?_) fun _ _ _ z => z⟩
  split at h1
  · rename_i z
    cases r1 with
    | d r => cases r with
      | str _ ok => exact ⟨z, rfl, Res.here h1 R1 (.inr ⟨z, rfl, rfl, ok⟩)⟩
  · exact h1.elim
theorem mi_range1 {tg : Expr} {p : Pos} (hg : Gl X "range") (hm : X.mg "range" = none) (ha : ME X Wx a ma) (h1 : starEach [a] X.env = (false, eval a X.env) :: starEach [] X.env := by rfl) (hs : starEach [a] X.env = [(false, eval a X.env)] := by rfl) :
    MI X Wx tg (.Call (.Name "range" p) [a] [] pos) (iRange1 ma) := (pi_range1 hg hm (ma_cons ha ma_nil h1) hs).imp fun σ H Q h => by
  obtain ⟨φ, M, L, R, l, h⟩ := h
  refine ⟨φ, M, L, R, l, ?_⟩
  unfold iRange1 at h
  cases hm' : ma L M with
  | bad => rw [hm'] at h; exact h.elim
  | ex x M' => rw [hm'] at h; simp only [aCons, hm', Mi.R.bind_ex]; exact h
  | ok w M' =>
    rw [hm', Mi.R.bind_ok] at h
    simp only [aCons, aNil, hm', Mi.R.bind_ok]
    split at h
    · rename_i n
      split at h
      · rename_i c
        intro φ' H' vs R' r e t
        cases r with
        | cons r rn =>
          cases rn
          cases r with
          | d r => cases r; exact ⟨n, rfl, by omega, by omega, h φ' H' _ R' rfl e t⟩
      · exact h.elim
    · exact h.elim
theorem mi_range2 {tg : Expr} {p : Pos} (hg : Gl X "range") (hm : X.mg "range" = none) (ha : ME X Wx a ma) (hb : ME X Wx b mb) (h1 : starEach [a, b] X.env = (false, eval a X.env) :: starEach [b] X.env := by rfl) (h2 : starEach [b] X.env = (false, eval b X.env) :: starEach [] X.env := by rfl)
    (hs : starEach [a, b] X.env = [(false, eval a X.env), (false, eval b X.env)] := by rfl) (hs2 : starEach [b] X.env = [(false, eval b X.env)] := by rfl) :
    MI X Wx tg (.Call (.Name "range" p) [a, b] [] pos) (iRange2 ma mb) := (pi_range2 hg hm (ma_cons ha (ma_cons hb ma_nil h2) h1) hs hs2).imp fun σ H Q h => by
  obtain ⟨φ, M, L, R, l, h⟩ := h
  refine ⟨φ, M, L, R, l, ?_⟩
  unfold iRange2 at h
  cases hm' : ma L M with
  | bad => rw [hm'] at h; exact h.elim
  | ex x M' => rw [hm'] at h; simp only [aCons, hm', Mi.R.bind_ex]; exact h
  | ok w M' =>
    rw [hm', Mi.R.bind_ok] at h
    cases hm2 : mb L M' with
    | bad => rw [hm2] at h; exact h.elim
    | ex x M2 => rw [hm2] at h; simp only [aCons, hm', hm2, Mi.R.bind_ex, Mi.R.bind_ok]; exact h
    | ok w2 M2 =>
      rw [hm2, Mi.R.bind_ok] at h
      simp only [aCons, aNil, hm', hm2, Mi.R.bind_ok]
      split at h
      · rename_i lo hi
        split at h
        · rename_i c
          intro φ' H' vs R' r e t
          cases r with
          | cons r rn =>
            cases rn with
            | cons r2 rn =>
              cases rn
              cases r with
              | d r => cases r with
                | int _ => cases r2 with
                  | d r2 => cases r2; exact ⟨lo, hi, rfl, ⟨by omega, by omega, by omega, by omega⟩, h φ' H' _ R' rfl e t⟩
        · exact h.elim
      · exact h.elim
end
end Mi
end

section
set_option maxHeartbeats 4000000
/-! MiR3: targets, comprehensions, statements. -/
namespace Mi
open PySem PySem.Spec PyProof.Rows L2

/-! ### targets -/
def tG (K : Fr) (mg : Mg) (g : Tg) : TG := fun v σ H Q => ∃ φ M L w L', Rel K mg φ M H ∧ LR K φ H σ L ∧ VR K φ H v w ∧ g.put w L = some L' ∧
  ∀ σ', LR K φ H σ' L' → σ'.length = σ.length → (∀ j : Nat, j ∉ g.ixs → σ'[j]? = σ[j]?) → Q σ' H
theorem _root_.L2.PG.imp {X : Cx} {e : Expr} {t t' : TG} (h : PG X e t) (i : ∀ v σ H Q, t' v σ H Q → t v σ H Q) : PG X e t' := ⟨fun pins s σ H v u Q I r q => h.run pins s σ H v u Q I r (i v σ H Q q)⟩
def gNames : List Nat → TGs
  | [] => gNil
  | i :: is => gCons (gName i) (gNames is)
section
variable {X : Cx} {Wx W2 : WX} {K : Fr} {mg : Mg} {e a b c : Expr} {es : List Expr} {m ma mb mc : EM} {pos : Pos}
theorem pgs_nil' : PGs X [] (gNames []) := pgs_nil
theorem pgs_cons' {i : Nat} {is : List Nat} (h1 : PG X e (gName i)) (h2 : PGs X es (gNames is)) (hs : (assignEach (e :: es) X.env).map (·.2) = assign e X.env :: (assignEach es X.env).map (·.2) := by rfl) : PGs X (e :: es) (gNames (i :: is)) := pgs_cons h1 h2 hs
theorem gNames_ok {φ : Phi} {H : Hp} {Q : L2.St → Hp → Prop} : ∀ {is : List Nat} {vs : List V} {ws : List W} {σ : L2.St} {L L' : Loc}, VRs K φ H vs ws → LR K φ H σ L → setAll is ws L = some L' →
    (∀ σ', LR K φ H σ' L' → σ'.length = σ.length → (∀ j : Nat, j ∉ is → σ'[j]? = σ[j]?) → Q σ' H) → gNames is vs σ H Q
  | [], _, _, σ, L, L', .nil, l, h, k => by
    cases h
    exact ⟨rfl, k σ l rfl fun _ _ => rfl⟩
  | i :: is, _, _, σ, L, L', .cons (v := v) (w := w) r rs, l, h, k => by
    refine ⟨_, _, rfl, gNames_ok rs (l.set (i := i) r) h fun σ' l' hl hj => k σ' l' (by rw [hl]; simp) fun j hji => ?_⟩
    rw [hj j (fun z => hji (List.mem_cons_of_mem _ z)), List.getElem?_set_ne (fun z => hji (by rw [z]; exact List.mem_cons_self))]
  | [], _, _, _, _, _, .cons _ _, _, h, _ => by cases h
  | _ :: _, _, _, _, _, _, .nil, _, h, _ => by cases h
theorem mg_nm {i : Nat} (h : PG X e (gName i)) : PG X e (tG K mg (.nm i)) := h.imp fun v σ H Q h => by
  obtain ⟨φ, M, L, w, L', R, l, r, hp, k⟩ := h
  cases hp
  exact k _ (l.set r) (by simp) fun j hj => List.getElem?_set_ne (fun z => hj (by simp [Tg.ixs, z]))
theorem mg_tup {is : List Nat} {k : Nat} (hc : X.calm = true) (h : PGs X es (gNames is)) (hn : (assignEach es X.env).length = is.length := by rfl) (hst : (assignEach es X.env).findIdx? (·.1) = none := by rfl) : PG X (.Tuple es k pos) (tG X.K mg (.tp is)) :=
  (pg_tup (n := is.length) hc h hn hst).imp fun v σ H Q h => by
    obtain ⟨φ, M, L, w, L', R, l, r, hp, k⟩ := h
    unfold Tg.put at hp
    dsimp only at hp
    split at hp
    · rename_i ws hi
      obtain ⟨a, vs, rfl, s, rs⟩ := r.items hi
      refine ⟨a, vs, rfl, s.sq, ?_, gNames_ok rs l hp k⟩
      rw [rs.length]
      clear k rs s r
      have len : ∀ {is : List Nat} {ws : List W} {L L' : Loc}, setAll is ws L = some L' → ws.length = is.length := by
        intro is
        induction is with
        | nil => intro ws L L' h; cases ws with
          | nil => rfl
          | cons _ _ => cases h
        | cons i is ih => intro ws L L' h; cases ws with
          | nil => cases h
          | cons w ws => rw [List.length_cons, List.length_cons, ih h]
      exact len hp
    · cases hp

/-! ### comprehensions -/
abbrev W0 : WX := fun _ _ _ _ => False
theorem wipe_get {σ : L2.St} {j : Nat} : ∀ {vs : List Nat}, (L2.wipe σ vs)[j]? = if j ∈ vs then (if j < σ.length then some none else none) else σ[j]?
  | [] => by simp [L2.wipe]
  | v :: vs => by
    unfold L2.wipe
    rw [List.getElem?_set]
    by_cases hv : v = j
    · subst hv
      simp [L2.wipe_length]
    · rw [if_neg hv, wipe_get]
      have : (j ∈ v :: vs) ↔ j ∈ vs := by simp [Ne.symm hv]
      simp only [this]
theorem wipe_eq {σ σ' : L2.St} {vs is : List Nat} (hl : σ'.length = σ.length) (hj : ∀ j : Nat, j ∉ is → σ'[j]? = σ[j]?) (sub : ∀ j ∈ is, j ∈ vs) : L2.wipe σ' vs = L2.wipe σ vs := by
  refine List.ext_getElem? fun j => ?_
  rw [wipe_get, wipe_get, hl]
  split
  · rfl
  · rename_i h
    exact hj j fun z => h (sub j z)
theorem wipe_wipe {σ : L2.St} {vs : List Nat} : L2.wipe (L2.wipe σ vs) vs = L2.wipe σ vs := by
  refine List.ext_getElem? fun j => ?_
  simp only [wipe_get, L2.wipe_length]
  split <;> simp_all
theorem TK.lst {H : Hp} {p : Addr} {xs ys : List V} (h : H p = some (.lst xs)) : TK K H (upd H p (.lst ys)) := .write h (by intro _ e; cases e) (by intro _ _ e; cases e)
theorem Rel.lst {φ : Phi} {M : Hh} {H : Hp} (R : Rel K mg φ M H) {i : Nat} {p : Addr} {xs ys : List V} {ws : List W} (e : φ[i]? = some p) (h : H p = some (.lst xs)) (r : VRs K φ H ys ws) : Rel K mg φ (M.set i (.lst ws)) (upd H p (.lst ys)) :=
  R.write e h (by intro _ e; cases e) (by intro _ _ e; cases e) ⟨ys, upd_same, r.mono .refl (.lst h)⟩
theorem tLc_of {i : IM} {g : Tg} {t : TM} {vs : List Nat} (sub : ∀ j ∈ g.ixs, j ∈ vs) {σ : L2.St} {H : Hp} {Q : VK} (h : tM K mg Wx (eComp i vs g t m) σ H Q) : tLc (tI K mg Wx i) (tG K mg g) (tT K mg W0 t) (tM K mg W0 m) vs σ H Q := by
  obtain ⟨φ, M, L, R, l, h⟩ := h
  refine ⟨φ, M, L, R, l, (Res.seq h).imp (fun J H1 ⟨φ1, M1, s, R1, r1, e1, t1, h1⟩ => ?_) fun _ _ _ z => z⟩
  intro D hD
  have R2 : Rel K mg (φ1 ++ [D]) (M1 ++ [.lst []]) (upd H1 D (.lst [])) := R1.new hD ⟨[], upd_same, .nil⟩
  have hDn : (φ1 ++ [D])[M1.length]? = some D := by rw [← R1.len]; simp
  refine ⟨fun i k H' => k = s.items.length - i ∧ i ≤ s.items.length ∧ ∃ φ' M', Rel K mg φ' M' H' ∧ Ext (φ1 ++ [D]) φ' ∧ TK K (upd H1 D (.lst [])) H' ∧
    Res K mg (VR K) φ' H' (compL s.ok vs g (fun L h => noEx (t L h)) (fun L h => noEx (m L h)) M1.length L (s.items.drop i) M') Q (fun c d H' => Wx c d σ H'),
    ⟨_, rfl, Nat.zero_le _, _, _, R2, .refl, .refl, Res.mono h1 .app (.laid hD)⟩, ?_⟩
  rintro i k H' ⟨rfl, hi, φ', M', R', e', t', h'⟩
  have r' : SrcR K φ' H' J s := r1.mono (Ext.app.trans e') ((TK.laid hD).trans t')
  by_cases hlt : i < s.items.length
  · right
    have hw : s.items[i]? = some s.items[i] := by simp [hlt]
    rw [List.drop_eq_getElem_cons hlt] at h'
    generalize s.items[i] = w at h' hw
    unfold compL at h'
    split at h'
    · rename_i okh
      obtain ⟨go, yl⟩ := r'.step R' okh hw
      refine ⟨go, fun H2 => ∃ φ2 M2, Rel K mg φ2 M2 H2 ∧ Ext (φ1 ++ [D]) φ2 ∧ TK K (upd H1 D (.lst [])) H2 ∧
        Res K mg (VR K) φ2 H2 (compL s.ok vs g (fun L h => noEx (t L h)) (fun L h => noEx (m L h)) M1.length L (s.items.drop (i + 1)) M2) Q (fun c d H' => Wx c d σ H'), fun H2 z => ⟨_, by omega, rfl, hlt, z⟩, fun x H2 y => ?_⟩
      obtain ⟨rfl, rx⟩ := yl x H2 y
      split at h'
      · exact h'.elim
      · rename_i L1 hp
        have lw := ((l.mono (e1.trans (Ext.app.trans e')) (t1.trans ((TK.laid hD).trans t'))).wipe vs)
        refine ⟨φ', M', wipeL L vs, w, L1, R', lw, rx, hp, fun σ2 l2 hl2 hj2 => ⟨(wipe_eq hl2 hj2 sub).trans wipe_wipe, φ', M', L1, R', l2, ?_⟩⟩
        cases ht : t L1 M' with
        | bad => simp only [ht] at h'; exact h'.elim
        | ex x M3 => simp only [ht] at h'; exact h'.elim
        | ok bb M3 =>
          simp only [ht, noEx, Mi.R.bind_ok] at h'
          intro φ3 H3 b' R3 rb e3 t3
          obtain rfl : b' = bb := rb
          cases b' with
          | false =>
            rw [if_neg Bool.false_ne_true] at h' ⊢
            exact ⟨φ3, M3, R3, e'.trans e3, t'.trans t3, Res.mono h' e3 t3⟩
          | true =>
            rw [if_pos rfl] at h' ⊢
            refine ⟨φ3, M3, L1, R3, l2.mono e3 t3, ?_⟩
            cases he : m L1 M3 with
            | bad => simp only [he] at h'; exact h'.elim
            | ex x M4 => simp only [he] at h'; exact h'.elim
            | ok w4 M4 =>
              simp only [he, noEx, Mi.R.bind_ok] at h'
              intro φ4 H4 v R4 rv e4 t4
              have hD4 : φ4[M1.length]? = some D := e4 _ _ (e3 _ _ (e' _ _ hDn))
              split at h'
              · rename_i acc hacc
                obtain ⟨us, hv, rus⟩ := R4.ob' hacc hD4
                split at h'
                · rename_i hz
                  refine ⟨us, hv, by rw [rus.length]; exact hz, ?_⟩
                  have R5 := R4.lst hD4 hv (rus.append (.cons rv .nil))
                  have t5 : TK K H4 (upd H4 D (.lst (us ++ [v]))) := .lst hv
                  exact ⟨φ4, _, R5, e'.trans (e3.trans e4), t'.trans (t3.trans (t4.trans t5)), Res.mono h' (e3.trans e4) (t3.trans (t4.trans t5))⟩
                · exact h'.elim
              · exact h'.elim
    · exact h'.elim
  · left
    have hie : i = s.items.length := by omega
    rw [List.drop_eq_nil_of_le (by omega)] at h'
    unfold compL at h'
    split at h'
    · rename_i okh
      exact ⟨r'.stop R' okh (by omega), Res.here h' R' (.ref (e' _ _ hDn))⟩
    · exact h'.elim
theorem _root_.L2.PTs.imp {es : List Expr} {t t' : TT} (h : PTs X es t) (i : ∀ σ H Q, t' σ H Q → t σ H Q) : PTs X es t' := ⟨fun pins s σ H Q I q => h.run pins s σ H Q I (i σ H Q q)⟩
theorem mts_nil : PTs X [] (tT K mg W2 tYes) := pts_nil.imp fun σ H Q h => by
  obtain ⟨φ, M, L, R, l, h⟩ := h
  exact Res.here h R rfl
theorem mts_one {t : TM} (h : MT X W2 c t) : PTs X [c] (tT X.K X.mg W2 t) := pts_one h
theorem me_comp {elt tg iter : Expr} {ifs : List Expr} {scope : Scope} {own : List (Str × Nat)} {i : IM} {g : Tg} {t : TM} (hc : X.calm = true) (hN : X.N.Nodup) (hi : MI X Wx tg iter i) (ok : BlkOk X.N X.env.scope scope own)
    (hg : ∀ (s : Shared) (H : Hp) (C : Addr) (cl : List (Str × Addr)) (fp : List Addr), PG (X.blk s H scope (compEnvC scope cl C X.env) fp) tg (tG X.K X.mg g)) (ht : ∀ (s : Shared) (H : Hp) (C : Addr) (cl : List (Str × Addr)) (fp : List Addr), PTs (X.blk s H scope (compEnvC scope cl C X.env) fp) ifs (tT X.K X.mg W0 t))
    (he : ∀ (s : Shared) (H : Hp) (C : Addr) (cl : List (Str × Addr)) (fp : List Addr), PE (X.blk s H scope (compEnvC scope cl C X.env) fp) elt (tM X.K X.mg W0 m)) (sub : ∀ j ∈ g.ixs, j ∈ own.map (·.2) := by decide) (hs : ∀ x, foldedSetIterable iter X.env x = pure x := by intro _; rfl) :
    ME X Wx (.ListComp elt [⟨tg, iter, ifs, 0⟩] scope pos) (eComp i (own.map (·.2)) g t m) := (pe_lc hc hN hi ok hg ht he hs).imp fun σ H Q h => tLc_of sub h

/-! ### statements -/
theorem ms_pass : MS X Wx (.Pass pos) sNil := ps_pass.imp fun D σ H h => by
  obtain ⟨φ, M, L, R, l, h⟩ := h
  exact h φ H σ R l .refl .refl
theorem ms_break : MS X Wx (.Break pos) sBreak := ps_break.imp fun D σ H h => by
  obtain ⟨φ, M, L, R, l, h⟩ := h
  exact h φ H σ R l .refl .refl
theorem ms_cont : MS X Wx (.Continue pos) sCont := ps_continue.imp fun D σ H h => by
  obtain ⟨φ, M, L, R, l, h⟩ := h
  exact h φ H σ R l .refl .refl
theorem mss_nil : MSs X Wx [] sNil := pss_nil.imp fun D σ H h => by
  obtain ⟨φ, M, L, R, l, h⟩ := h
  exact h φ H σ R l .refl .refl
theorem mss_cons {st : Stmt} {rest : List Stmt} {a b : SM} (h1 : MS X Wx st a) (h2 : MSs X Wx rest b) : MSs X Wx (st :: rest) (sCons a b) := (pss_cons h1 h2).imp fun D σ H h => by
  obtain ⟨φ, M, L, R, l, h⟩ := h
  refine ⟨φ, M, L, R, l, ?_⟩
  unfold sCons at h
  cases ha : a L M with
  | nx L2 M2 => rw [ha] at h; exact fun φ' H' σ' R' l' e t => ⟨φ', M2, L2, R', l', ResS.mono h e t⟩
  | rt w M2 => rw [ha] at h; exact h
  | bk L2 M2 => rw [ha] at h; exact h
  | ct L2 M2 => rw [ha] at h; exact h
  | ex x L2 M2 => rw [ha] at h; exact h
  | bad => rw [ha] at h; exact h
theorem ms_expr (he : ME X Wx e m) (hs : swapsWith e none pos.line X.env = pure false := by rfl) : MS X Wx (.Expr e pos) (sExpr m) := (ps_expr he hs).imp fun D σ H h => by
  obtain ⟨φ, M, L, R, l, h⟩ := h
  exact ⟨φ, M, L, R, l, (Res.then l h).imp (fun v H1 ⟨φ1, M1, w, R1, r1, e1, t1, h1⟩ => h1 φ1 H1 σ R1 (l.mono e1 t1) .refl .refl) fun _ _ _ z => z⟩
theorem ms_ret (he : ME X Wx e m) : MS X Wx (.Return (some e) pos) (sRet m) := (ps_ret he).imp fun D σ H h => by
  obtain ⟨φ, M, L, R, l, h⟩ := h
  exact ⟨φ, M, L, R, l, (Res.then l h).imp (fun v H1 ⟨φ1, M1, w, R1, r1, e1, t1, h1⟩ => h1 φ1 H1 v R1 r1 .refl .refl) fun _ _ _ z => z⟩
theorem ms_retN : MS X Wx (.Return none pos) sRetN := ps_retN.imp fun D σ H h => by
  obtain ⟨φ, M, L, R, l, h⟩ := h
  exact h φ H _ R (.d .non) .refl .refl
theorem ms_if {t : TM} {x y : List Stmt} {sa sb : SM} (hc : MT X Wx c t) (ha : MSs X Wx x sa) (hb : MSs X Wx y sb) : MS X Wx (.If c x y pos) (sIf t sa sb) := (ps_if hc ha hb).imp fun D σ H h => by
  obtain ⟨φ, M, L, R, l, h⟩ := h
  refine ⟨φ, M, L, R, l, (Res.then (rel := relB) l h).imp (fun v H1 ⟨φ1, M1, w, R1, r1, e1, t1, h1⟩ => ?_) fun _ _ _ z => z⟩
  obtain rfl : v = w := r1
  cases v with
  | true => rw [if_pos rfl] at h1 ⊢; exact ⟨φ1, M1, L, R1, l.mono e1 t1, h1⟩
  | false => rw [if_neg Bool.false_ne_true] at h1 ⊢; exact ⟨φ1, M1, L, R1, l.mono e1 t1, h1⟩
theorem tAsg_of {g : Tg} {D : Ends} {σ : L2.St} {H : Hp} (h : tS K mg Wx (sAsg g m) D σ H) : tAsg (tM K mg Wx m) (tG K mg g) D σ H := by
  obtain ⟨φ, M, L, R, l, h⟩ := h
  refine ⟨φ, M, L, R, l, (Res.then l h).imp (fun v H1 ⟨φ1, M1, w, R1, r1, e1, t1, h1⟩ => ?_) fun _ _ _ z => z⟩
  cases hp : g.put w L with
  | none => rw [hp] at h1; exact h1.elim
  | some L' =>
    rw [hp] at h1
    exact ⟨φ1, M1, L, w, L', R1, l.mono e1 t1, r1, hp, fun σ' l' _ _ => h1 φ1 H1 σ' R1 l' .refl .refl⟩
theorem tAsg_nm {i : Nat} {D : Ends} {σ : L2.St} {H : Hp} {te : TE} (h : tS K mg Wx (sAsg (.nm i) m) D σ H) (hte : ∀ σ H Q, tM K mg Wx m σ H Q → te σ H Q) : tAsg te (gName i) D σ H := by
  obtain ⟨φ, M, L, R, l, h⟩ := h
  refine hte σ H _ ⟨φ, M, L, R, l, (Res.then l h).imp (fun v H1 ⟨φ1, M1, w, R1, r1, e1, t1, h1⟩ => ?_) fun _ _ _ z => z⟩
  exact h1 φ1 H1 _ R1 ((l.mono e1 t1).set r1) .refl .refl
/-- name = e -/
theorem ms_set (i : Nat) {x : Str} {pos' : Pos} (hN : X.N.Nodup) (he : ME X Wx e m) (hi : X.N[i]? = some x := by rfl) (hx : L2.Loc X.env.scope x := by first | exact Or.inl rfl | exact Or.inr rfl) (hs : swapsWith e (some (.Name x pos')) pos.line X.env = pure false := by rfl) (hf : X.fn x = true ∨ X.env.scope.names.lookup x = some .local := by first | exact .inl rfl | exact .inr rfl) :
    MS X Wx (.Assign [.Name x pos'] e pos) (sAsg (.nm i) m) := (ps_set hN hi hx he hs hf).imp fun D σ H h => tAsg_nm h fun _ _ _ z => z
/-- name = [..] -/
theorem ms_setC (iy : Nat) {y : Str} {py : Pos} {elt tg iter : Expr} {ifs : List Expr} {scope : Scope} {own : List (Str × Nat)} {i : IM} {g : Tg} {t : TM} {spos : Pos} (hc : X.calm = true) (hN : X.N.Nodup) (hi : MI X Wx tg iter i) (ok : BlkOk X.N X.env.scope scope own)
    (hg : ∀ (s : Shared) (H : Hp) (C : Addr) (cl : List (Str × Addr)) (fp : List Addr), PG (X.blk s H scope (compEnvC scope cl C X.env) fp) tg (tG X.K X.mg g)) (ht : ∀ (s : Shared) (H : Hp) (C : Addr) (cl : List (Str × Addr)) (fp : List Addr), PTs (X.blk s H scope (compEnvC scope cl C X.env) fp) ifs (tT X.K X.mg W0 t))
    (he : ∀ (s : Shared) (H : Hp) (C : Addr) (cl : List (Str × Addr)) (fp : List Addr), PE (X.blk s H scope (compEnvC scope cl C X.env) fp) elt (tM X.K X.mg W0 m)) (hy : X.N[iy]? = some y := by rfl) (hyl : X.env.scope.names.lookup y = some .local := by rfl)
    (hsw : swapsWith (.ListComp elt [⟨tg, iter, ifs, 0⟩] scope pos) (some (.Name y py)) spos.line X.env = pure true := by exact sw_true rfl rfl rfl (by decide +kernel)) (sub : ∀ j ∈ g.ixs, j ∈ own.map (·.2) := by decide) (hs : ∀ x, foldedSetIterable iter X.env x = pure x := by intro _; rfl) :
    MS X Wx (.Assign [.Name y py] (.ListComp elt [⟨tg, iter, ifs, 0⟩] scope pos) spos) (sAsg (.nm iy) (eComp i (own.map (·.2)) g t m)) := (ps_setLc hc hN hy hyl hsw hi ok hg ht he hs).imp fun D σ H h => tAsg_nm h fun _ _ _ z => tLc_of sub z
/-- target = e -/
theorem ms_asg {tg : Expr} {g : Tg} (he : ME X Wx e m) (hg : PG X tg (tG X.K X.mg g)) (hs : swapsWithSole [tg] e pos.line X.env = pure false := by rfl) (hw : swappedStores [tg] e X.env = pure none := by rfl)
    (h1 : (assignEach [tg] X.env).map (·.2) = [assign tg X.env] := by rfl) : MS X Wx (.Assign [tg] e pos) (sAsg g m) := (ps_asg he hg hs hw h1).imp fun D σ H h => tAsg_of h
/-- o[i] = e -/
def relSet (K : Fr) (mg : Mg) (f : W → W → W → Hh → Option Hh) : TSet := fun o i v H Q => ∃ φ M wo wi wv M', Rel K mg φ M H ∧ VR K φ H o wo ∧ VR K φ H i wi ∧ VR K φ H v wv ∧ f wo wi wv M = some M' ∧ ∀ φ' H', Rel K mg φ' M' H' → Ext φ φ' → TK K H H' → Q H'
theorem ms_sub {o i : Expr} {mo mi mv : EM} {f : W → W → W → Hh → Option Hh} {pos' : Pos} (hv : ME X Wx e mv) (ho : ME X Wx o mo) (hi : ME X Wx i mi) (hf : PSet X (relSet X.K X.mg f)) (hs : swapsWithSole [.Subscript o i pos'] e pos.line X.env = pure false := by rfl) (hw : swappedStores [.Subscript o i pos'] e X.env = pure none := by rfl)
    (h1 : (assignEach [.Subscript o i pos'] X.env).map (·.2) = [assign (.Subscript o i pos') X.env] := by rfl)
    (ha : ∀ v, assign (.Subscript o i pos') X.env v = (do
      let ov ← holding [v] (eval o X.env)
      let iv ← holding [v, ov] (eval i X.env)
      standAt pos'
      holding [v, ov, iv] (setItem ov iv v)
      release [v, ov, iv] []) := by intro _; rfl) : MS X Wx (.Assign [.Subscript o i pos'] e pos) (sSet f mo mi mv) := (ps_asg hv (pg_sub ho hi hf ha) hs hw h1).imp fun D σ H h => by
  obtain ⟨φ, M, L, R, l, h⟩ := h
  refine ⟨φ, M, L, R, l, (Res.then l h).imp (fun v H1 ⟨φ1, M1, w, R1, r1, e1, t1, h1⟩ => ?_) fun _ _ _ z => z⟩
  have l1 := l.mono e1 t1
  refine ⟨φ1, M1, L, R1, l1, (Res.then l1 h1).imp (fun v2 H2 ⟨φ2, M2, w2, R2, r2, e2, t2, h2⟩ => ?_) fun _ _ _ z => z⟩
  have l2 := l1.mono e2 t2
  refine ⟨φ2, M2, L, R2, l2, (Res.then l2 h2).imp (fun v3 H3 ⟨φ3, M3, w3, R3, r3, e3, t3, h3⟩ => ?_) fun _ _ _ z => z⟩
  cases hf' : f w2 w3 w M3 with
  | none => rw [hf'] at h3; exact h3.elim
  | some M4 =>
    rw [hf'] at h3
    exact ⟨φ3, M3, w2, w3, w, M4, R3, r2.mono e3 t3, r3, r1.mono (e2.trans e3) (t2.trans t3), hf', fun φ4 H4 R4 e4 t4 => h3 φ4 H4 σ R4 ((l2.mono e3 t3).mono e4 t4) e4 t4⟩
theorem ms_for {tg iter : Expr} {body : List Stmt} {i : IM} {g : Tg} {sb : SM} (hp : PassesOwn (model X.prog X.w) X.A X.env X.xe) (hc : X.calm = true) (hi : MI X Wx tg iter i) (hg : PG X tg (tG X.K X.mg g)) (hb : MSs X Wx body sb)
    (hs : ∀ x, foldedSetIterable iter X.env x = pure x := by intro _; rfl) : MS X Wx (.For tg iter body [] pos) (sFor i g sb) := (ps_for hp hc hi hg hb hs).imp fun D σ H h => by
  obtain ⟨φ, M, L, R, l, h⟩ := h
  refine ⟨φ, M, L, R, l, (Res.then (rel := SrcR X.K) l h).imp (fun J H1 ⟨φ1, M1, s, R1, r1, e1, t1, h1⟩ => ?_) fun _ _ _ z => z⟩
  refine ⟨fun i k σ' H' => k = s.items.length - i ∧ i ≤ s.items.length ∧ ∃ φ' M' L', Rel X.K X.mg φ' M' H' ∧ LR X.K φ' H' σ' L' ∧ Ext φ1 φ' ∧ TK X.K H1 H' ∧ ResS X.K X.mg Wx D φ' H' (forL s.ok g sb (s.items.drop i) L' M'),
    ⟨_, rfl, Nat.zero_le _, φ1, M1, L, R1, l.mono e1 t1, .refl, .refl, h1⟩, ?_⟩
  rintro i k σ' H' ⟨rfl, hi, φ', M', L', R', l', e', t', h'⟩
  have r' : SrcR X.K φ' H' J s := r1.mono e' t'
  by_cases hlt : i < s.items.length
  · right
    have hw : s.items[i]? = some s.items[i] := by simp [hlt]
    rw [List.drop_eq_getElem_cons hlt] at h'
    generalize s.items[i] = w at h' hw
    unfold forL at h'
    split at h'
    · rename_i okh
      obtain ⟨go, yl⟩ := r'.step R' okh hw
      refine ⟨go, fun σ2 H2 => ∃ φ2 M2 L2, Rel X.K X.mg φ2 M2 H2 ∧ LR X.K φ2 H2 σ2 L2 ∧ Ext φ1 φ2 ∧ TK X.K H1 H2 ∧ ResS X.K X.mg Wx D φ2 H2 (forL s.ok g sb (s.items.drop (i + 1)) L2 M2), fun σ2 H2 z => ⟨_, by omega, rfl, hlt, z⟩, fun x H2 y => ?_⟩
      obtain ⟨rfl, rx⟩ := yl x H2 y
      split at h'
      · exact h'.elim
      · rename_i L1 hp
        refine ⟨φ', M', L', w, L1, R', l', rx, hp, fun σ2 l2 _ _ => ⟨φ', M', L1, R', l2, ?_⟩⟩
        cases hb' : sb L1 M' with
        | nx L2 M2 => simp only [hb'] at h'; exact fun φ2 H2 σ2 R2 l2 e2 t2 => ⟨φ2, M2, L2, R2, l2, e'.trans e2, t'.trans t2, ResS.mono h' e2 t2⟩
        | ct L2 M2 => simp only [hb'] at h'; exact fun φ2 H2 σ2 R2 l2 e2 t2 => ⟨φ2, M2, L2, R2, l2, e'.trans e2, t'.trans t2, ResS.mono h' e2 t2⟩
        | bk L2 M2 => simp only [hb'] at h'; exact h'
        | rt w2 M2 => simp only [hb'] at h'; exact h'
        | ex x2 L2 M2 => simp only [hb'] at h'; exact h'
        | bad => simp only [hb'] at h'; exact h'
    · exact h'.elim
  · left
    rw [List.drop_eq_nil_of_le (by omega)] at h'
    unfold forL at h'
    split at h'
    · rename_i okh
      exact ⟨r'.stop R' okh (by omega), h' φ' H' σ' R' l' .refl .refl⟩
    · exact h'.elim
theorem ms_while {t : TM} {body : List Stmt} {sb : SM} (n : Nat) (hp : PassesOwn (model X.prog X.w) X.A X.env X.xe) (hc : MT X Wx c t) (hb : MSs X Wx body sb) : MS X Wx (.While c body [] pos) (sWhile n t sb) := (ps_while hp hc hb).imp fun D σ H h => by
  obtain ⟨φ, M, L, R, l, h⟩ := h
  refine ⟨fun k σ' H' => ∃ φ' M' L', Rel X.K X.mg φ' M' H' ∧ LR X.K φ' H' σ' L' ∧ ResS X.K X.mg Wx D φ' H' (whileL t sb k L' M'), ⟨n, φ, M, L, R, l, h⟩, ?_⟩
  rintro k σ' H' ⟨φ', M', L', R', l', h'⟩
  cases k with
  | zero => exact h'.elim
  | succ k =>
    unfold whileL at h'
    refine ⟨φ', M', L', R', l', (Res.then (rel := relB) l' h').imp (fun v H1 ⟨φ1, M1, w, R1, r1, e1, t1, h1⟩ => ?_) fun _ _ _ z => z⟩
    obtain rfl : v = w := r1
    cases v with
    | false =>
      rw [if_neg Bool.false_ne_true] at h1 ⊢
      exact h1 φ1 H1 σ' R1 (l'.mono e1 t1) .refl .refl
    | true =>
      rw [if_pos rfl] at h1 ⊢
      refine ⟨fun σ2 H2 => ∃ φ2 M2 L2, Rel X.K X.mg φ2 M2 H2 ∧ LR X.K φ2 H2 σ2 L2 ∧ ResS X.K X.mg Wx D φ2 H2 (whileL t sb k L2 M2), fun σ2 H2 z => ⟨k, Nat.lt_succ_self k, z⟩, φ1, M1, L', R1, l'.mono e1 t1, ?_⟩
      cases hb' : sb L' M1 with
      | nx L2 M2 => simp only [hb'] at h1; exact fun φ2 H2 σ2 R2 l2 e2 t2 => ⟨φ2, M2, L2, R2, l2, ResS.mono h1 e2 t2⟩
      | ct L2 M2 => simp only [hb'] at h1; exact fun φ2 H2 σ2 R2 l2 e2 t2 => ⟨φ2, M2, L2, R2, l2, ResS.mono h1 e2 t2⟩
      | bk L2 M2 => simp only [hb'] at h1; exact h1
      | rt w2 M2 => simp only [hb'] at h1; exact h1
      | ex x2 L2 M2 => simp only [hb'] at h1; exact h1
      | bad => simp only [hb'] at h1; exact h1
/-! ### what is left behind a block -/
theorem LR.forget {φ : Phi} {H : Hp} {σ : L2.St} {L : Loc} (h : LR K φ H σ L) : ∀ vs : List Nat, LR K φ H σ (Mi.forget L vs)
  | [] => h
  | v :: vs => by
    unfold Mi.forget
    have ih := LR.forget h vs
    refine ⟨by simp [ih.1], fun j w q => ?_⟩
    by_cases hj : v = j
    · subst hj
      by_cases hi : v < (Mi.forget L vs).length
      · rw [List.getElem?_set_self hi] at q; cases q
      · rw [List.getElem?_eq_none (by simpa using hi)] at q; cases q
    · rw [List.getElem?_set_ne hj] at q
      exact ih.2 j w q
theorem LR.cut {φ : Phi} {H : Hp} {σ : L2.St} {L : Loc} {n : Nat} (h : LR K φ H σ L) (q : locUnd n L = true) : LR K (φ.take n) H σ L := by
  refine ⟨h.1, fun i w e => ?_⟩
  obtain ⟨v, a, b⟩ := h.2 i w e
  have := List.all_eq_true.mp q (some w) (List.mem_of_getElem? e)
  exact ⟨v, a, b.cut this⟩
theorem gcS_rel {φ φ' : Phi} {M M' : Hh} {H H' : Hp} {σ : L2.St} {L : Loc} (R : Rel K mg φ M H) (R' : Rel K mg φ' M' H') (e : Ext φ φ') (l : LR K φ' H' σ L) : ∃ ψ, Rel K mg ψ (gcS M L M') H' ∧ LR K ψ H' σ L ∧ Ext φ ψ := by
  unfold gcS
  split
  · rename_i c
    obtain ⟨hw, c⟩ := c
    refine ⟨φ'.take M.length, R'.cut _ ?_, l.cut hw, .take R e⟩
    rcases c with c | c
    · rw [c]; exact R.all
    · exact c.1
  · exact ⟨φ', R', l, e⟩
theorem mss_scope {st : List Stmt} {sb : SM} (dead : List Nat) (h : MSs X Wx st sb) : MSs X Wx st (sScope dead sb) := h.imp fun D σ H h => by
  obtain ⟨φ, M, L, R, l, h⟩ := h
  refine ⟨φ, M, L, R, l, ?_⟩
  unfold sScope at h
  cases hb : sb L M with
  | nx L2 M2 =>
    rw [hb] at h
    intro φ' H' σ' R' l' e t
    obtain ⟨ψ, R2, l2, e2⟩ := gcS_rel R R' e (l'.forget dead)
    exact h ψ H' σ' R2 l2 e2 t
  | ct L2 M2 =>
    rw [hb] at h
    intro φ' H' σ' R' l' e t
    obtain ⟨ψ, R2, l2, e2⟩ := gcS_rel R R' e (l'.forget dead)
    exact h ψ H' σ' R2 l2 e2 t
  | rt w M2 => rw [hb] at h; exact h
  | bk L2 M2 => rw [hb] at h; exact h
  | ex x L2 M2 => rw [hb] at h; exact h
  | bad => rw [hb] at h; exact h
theorem mt_gc {t : TM} (h : MT X Wx e t) : MT X Wx e (tGc t) := h.imp fun σ H Q h => by
  obtain ⟨φ, M, L, R, l, h⟩ := h
  refine ⟨φ, M, L, R, l, ?_⟩
  unfold tGc at h
  cases hm : t L M with
  | bad => rw [hm] at h; exact h
  | ex x M' => rw [hm] at h; exact h
  | ok w M' =>
    rw [hm] at h
    intro φ' H' v R' r e t
    dsimp only [Mi.R.bind] at h
    split at h
    · rename_i c
      refine h (φ'.take M.length) H' v ?_ r (.take R e) t
      have := R'.cut M.length (by rw [c]; exact R.all)
      rw [c] at this
      exact this
    · exact h φ' H' v R' r e t
end
end Mi
end

section
set_option maxHeartbeats 4000000
/-! MiP: the operations of MiO are the machine's. -/
namespace Mi
open PySem PySem.Spec PyProof.Rows L2

section
variable {X : Cx} {K : Fr} {mg : Mg} {φ : Phi} {M : Hh} {H : Hp} {Q : VK} {E : XK}
/-! ### ends -/
theorem Res.ofD {x : PyData} {v : V} (h : Res K mg (VR K) φ H (R.of (some (.d x, M))) Q E) (R : Rel K mg φ M H) (r : DR K H v x) : Q v H := Res.here h R (.d r)
theorem Res.ofI {i : Int} (h : Res K mg (VR K) φ H (R.of (some (.int i, M))) Q E) (R : Rel K mg φ M H) : Q (.int i) H := h.ofD R (.int i)
theorem Res.ofB {b : Bool} (h : Res K mg (VR K) φ H (R.of (some (.bool b, M))) Q E) (R : Rel K mg φ M H) : Q (.bl b) H := h.ofD R (.bl b)
theorem Res.ofS {x : Str} (h : Res K mg (VR K) φ H (R.of (some (.str x, M))) Q E) (R : Rel K mg φ M H) (ok : PyData.strOk x = true) : Q (.str x) H := h.ofD R (.str x ok)
theorem Res.ofV {w : W} {v : V} (h : Res K mg (VR K) φ H (R.of (some (w, M))) Q E) (R : Rel K mg φ M H) (r : VR K φ H v w) : Q v H := Res.here h R r
theorem Res.ofL {ws : List W} {vs : List V} (h : Res K mg (VR K) φ H (R.of (some (.ref M.length, M ++ [.lst ws]))) Q E) (R : Rel K mg φ M H) (r : VRs K φ H vs ws) (p : Addr) (hp : H p = none) : Q (.ref p) (upd H p (.lst vs)) :=
  h (φ ++ [p]) _ _ (R.new hp ⟨vs, upd_same, r.mono .app (.laid hp)⟩) (.ref (by rw [← R.len]; simp)) .app (.laid hp)
theorem Res.ofT {ws : List W} {vs : List V} (h : Res K mg (VR K) φ H (R.of (some (mkTup ws, M))) Q E) (R : Rel K mg φ M H) (r : VRs K φ H vs ws) (its : List Value) (p : Addr) (hp : H p = none) : Q (.ref p) (upd H p (.frz (plT its) (.tup vs))) :=
  h φ _ _ (R.other hp) (VR.mkTup ⟨its, upd_same⟩ (r.mono .refl (.laid hp))) .refl (.laid hp)
theorem VR.int_inv {v : V} {i : Int} (r : VR K φ H v (.d (.int i))) : v = .int i := by cases r with | d r => cases r; rfl
theorem VR.str_inv {v : V} {i : Str} (r : VR K φ H v (.d (.str i))) : v = .str i := by cases r with | d r => cases r; rfl
theorem VR.str_ok {v : V} {i : Str} (r : VR K φ H v (.d (.str i))) : PyData.strOk i = true := by cases r with | d r => cases r; assumption
theorem VR.bool_inv {v : V} {i : Bool} (r : VR K φ H v (.d (.bool i))) : v = .bl i := by cases r with | d r => cases r; rfl
theorem VR.none_inv {v : V} (r : VR K φ H v (.d .none)) : v = .non := by cases r with | d r => cases r; rfl
theorem VR.ref_inv {v : V} {i : Nat} (r : VR K φ H v (.ref i)) : ∃ a, v = .ref a ∧ φ[i]? = some a := by cases r with | ref h => exact ⟨_, rfl, h⟩
theorem VR.lst {v : V} {i : Nat} {ws : List W} (R : Rel K mg φ M H) (r : VR K φ H v (.ref i)) (h : M[i]? = some (.lst ws)) : ∃ a vs, v = .ref a ∧ φ[i]? = some a ∧ H a = some (.lst vs) ∧ VRs K φ H vs ws := by
  obtain ⟨a, rfl, e⟩ := r.ref_inv
  obtain ⟨vs, hv, rv⟩ := R.ob' h e
  exact ⟨a, vs, rfl, e, hv, rv⟩
theorem VR.rol_inv {v : V} {xs : List PyData} (r : VR K φ H v (.d (.list xs))) : ∃ a vs, v = .ref a ∧ SqL K H a vs ∧ DRs K H vs xs := by
  cases r with | d r => cases r with | rol s r => exact ⟨_, _, rfl, s.sq, r⟩

/-! ### data -/
mutual
theorem DR.dp : ∀ {v : V} {x : PyData}, DR K H v x → Dp K H v x
  | _, _, .non => .non
  | _, _, .bl b => .bl b
  | _, _, .int i => .int i
  | _, _, .str x _ => .str x
  | _, _, .tup s r => .tup s.sq (DRs.dp r)
  | _, _, .rol s r => .lst s.sq (DRs.dp r)
theorem DRs.dp : ∀ {vs : List V} {xs : List PyData}, DRs K H vs xs → DpAll K H vs xs
  | _, _, .nil => .nil
  | _, _, .cons r s => .cons (DR.dp r) (DRs.dp s)
end
mutual
theorem DR.canLay : ∀ {v : V} {x : PyData}, DR K H v x → x.canLay0 = true
  | _, _, .non => rfl
  | _, _, .bl b => rfl
  | _, _, .int i => rfl
  | _, _, .str x ok => ok
  | _, _, .tup s r => by rw [PyData.canLay0]; exact DRs.canLay r
  | _, _, .rol s r => by rw [PyData.canLay0]; exact DRs.canLay r
theorem DRs.canLay : ∀ {vs : List V} {xs : List PyData}, DRs K H vs xs → PyData.canLayAll0 xs = true
  | _, _, .nil => rfl
  | _, _, .cons r s => by rw [PyData.canLayAll0, DR.canLay r, DRs.canLay s]; rfl
end
/-- data that lies, as a thing -/
def DpC (K : Fr) (H : Hp) (v : V) (x : PyData) : Prop := Dp K H v x ∧ x.canLay0 = true
theorem mapM_cons_some {α β : Type} {f : α → Option β} {x : α} {xs : List α} {zs : List β} (h : (x :: xs).mapM f = some zs) : ∃ y ys, f x = some y ∧ xs.mapM f = some ys ∧ zs = y :: ys := by
  rw [List.mapM_cons] at h
  cases hx : f x with
  | none => rw [hx] at h; cases h
  | some y =>
    rw [hx] at h
    cases hs : xs.mapM f with
    | none => rw [hs] at h; cases h
    | some ys => rw [hs] at h; cases h; exact ⟨y, ys, rfl, rfl, rfl⟩
theorem dataWs_dp {n : Nat} (ih : ∀ {v : V} {w : W} {x : PyData}, VR K φ H v w → dataW M n w = some x → DpC K H v x) : ∀ {vs : List V} {ws : List W} {xs : List PyData}, VRs K φ H vs ws → ws.mapM (dataW M n) = some xs → DpAll K H vs xs ∧ PyData.canLayAll0 xs = true
  | _, _, _, .nil, h => by cases h; exact ⟨.nil, rfl⟩
  | _, _, _, .cons r s, h => by
    obtain ⟨y, ys, h1, h2, rfl⟩ := mapM_cons_some h
    obtain ⟨a1, a2⟩ := ih r h1
    obtain ⟨b1, b2⟩ := dataWs_dp ih s h2
    exact ⟨.cons a1 b1, by rw [PyData.canLayAll0, a2, b2]; rfl⟩
theorem dataW_dp (R : Rel K mg φ M H) : ∀ (n : Nat) {v : V} {w : W} {x : PyData}, VR K φ H v w → dataW M n w = some x → DpC K H v x
  | 0, v, w, x, r, h => by
    cases r with
    | d r => simp at h; subst h; exact ⟨r.dp, r.canLay⟩
    | ref _ => cases h
    | mix _ _ => cases h
  | n + 1, v, w, x, r, h => by
    cases r with
    | d r => simp at h; subst h; exact ⟨r.dp, r.canLay⟩
    | ref e =>
      unfold dataW at h
      split at h
      · rename_i ws hm
        obtain ⟨vs, hv, rv⟩ := R.ob' hm e
        cases hs : ws.mapM (dataW M n) with
        | none => rw [hs] at h; cases h
        | some xs =>
          rw [hs] at h; cases h
          obtain ⟨a1, a2⟩ := dataWs_dp (fun r h => dataW_dp R n r h) rv hs
          exact ⟨.lst (.of hv) a1, by rw [PyData.canLay0]; exact a2⟩
      · cases h
    | mix s rv =>
      rename_i a vs ws
      unfold dataW at h
      cases hs : ws.mapM (dataW M n) with
      | none => rw [hs] at h; cases h
      | some xs =>
        rw [hs] at h; cases h
        obtain ⟨a1, a2⟩ := dataWs_dp (fun r h => dataW_dp R n r h) rv hs
        exact ⟨.tup s.sq a1, by rw [PyData.canLay0]; exact a2⟩

theorem strOk_app {x y : Str} (h1 : PyData.strOk x = true) (h2 : PyData.strOk y = true) : PyData.strOk (x ++ y) = true := by
  show PyData.strOk ⟨x.cps ++ y.cps⟩ = true
  unfold PyData.strOk at h1 h2 ⊢
  simp_all [Array.all_append]
/-! ### numbers, texts, lists, tuples together -/
variable {k : Nat}
/-- t + u of tuples -/
theorem op_catF : OpR X (binaryOp .Add) (fun x y H Q => ∃ a b xs ys, x = .ref a ∧ y = .ref b ∧ SqT X.K H a xs ∧ SqT X.K H b ys ∧ xs.length + ys.length ≤ sizeLine ∧
    (xs = [] → Q (.ref b) H) ∧ (xs ≠ [] → ys = [] → Q (.ref a) H) ∧ (xs ≠ [] → ys ≠ [] → ∀ (its : List Value) (p : Addr), H p = none → Q (.ref p) (upd H p (.frz (plT its) (.tup (xs ++ ys)))))) := by
  intro pins s σ H x y v u Q I rx ry ⟨a, b, xs, ys, ex, ey, ha, hb, hz, q0, q1, q2⟩
  subst ex ey
  cases rx
  cases ry
  obtain ⟨us, ra, ta, _⟩ := I.tuple ha
  obtain ⟨zs, rb, tb, _⟩ := I.tuple hb
  by_cases hx : xs = []
  · subst hx
    cases ra
    exact cat_tup0 ta tb ⟨.ref b, _, I, rfl, q0 rfl⟩
  · refine HT.cat_tup ta tb (fun e => hx (ra.nil_iff.mp e)) (fun e => ⟨.ref a, _, I, rfl, q1 hx (rb.nil_iff.mp e)⟩) (fun e => ?_) (by rw [← ra.length, ← rb.length]; exact hz)
    have new := Heap.get?_push_size s.heap (o := plT (us ++ zs)) rfl
    exact ⟨.ref s.heap.objs.size, _, I.laid (t' := s.toks) (o := .frz (plT (us ++ zs)) (.tup (xs ++ ys))) (fun _ _ z => Heap.get?_push_of_some _ z) (Nat.le_refl _) ⟨new, by rw [List.length_append]; exact hz, _, ra.append rb, ⟨_, new, rfl, _, rfl⟩⟩, rfl, q2 hx (fun z => e (rb.nil_iff.mpr z)) _ _ (I.hok.fresh (Nat.le_refl _))⟩
theorem or_add : OpR X (binaryOp .Add) (rel2 X.K X.mg opAdd) := by
  intro pins s σ H x y v u Q I rx ry ⟨φ, M, a, b, R, r1, r2, h⟩
  unfold opAdd at h
  split at h
  · obtain rfl := r1.int_inv; obtain rfl := r2.int_inv
    exact op_add pins s σ H _ _ v u Q I rx ry ⟨_, _, rfl, rfl, h.ofI R⟩
  · have o1 := r1.str_ok; have o2 := r2.str_ok
    obtain rfl := r1.str_inv; obtain rfl := r2.str_inv
    split at h
    · rename_i hz
      exact op_add_str pins s σ H _ _ v u Q I rx ry ⟨_, _, rfl, rfl, hz, h.ofS R (strOk_app o1 o2)⟩
    · exact h.elim
  · split at h
    · rename_i h1 h2
      obtain ⟨p, xs, rfl, e1, hx, rx1⟩ := r1.lst R h1
      obtain ⟨q, ys, rfl, e2, hy, ry1⟩ := r2.lst R h2
      split at h
      · rename_i hz
        exact op_cat pins s σ H _ _ v u Q I rx ry ⟨p, q, xs, ys, rfl, rfl, hx, hy, by rw [rx1.length, ry1.length]; exact hz, fun l hl => h.ofL R (rx1.append ry1) l hl⟩
      · exact h.elim
    · exact h.elim
  · split at h
    · rename_i h1 h2
      obtain ⟨p, xs, rfl, e1, rx1⟩ := r1.items h1
      obtain ⟨q, ys, rfl, e2, ry1⟩ := r2.items h2
      split at h
      · rename_i hz
        refine op_catF pins s σ H _ _ v u Q I rx ry ⟨p, q, xs, ys, rfl, rfl, e1.sq, e2.sq, by rw [rx1.length, ry1.length]; exact hz, fun e => ?_, fun _ e => ?_, fun _ _ its l hl => h.ofT R (rx1.append ry1) its l hl⟩
        · subst e; cases rx1
          exact h.ofV R (VR.mkTup e2 ry1)
        · subst e; cases ry1
          exact h.ofV R (VR.mkTup e1 (by rw [List.append_nil]; exact rx1))
      · exact h.elim
    · exact h.elim
theorem or_sub : OpR X (binaryOp .Sub) (rel2 X.K X.mg opSub) := by
  intro pins s σ H x y v u Q I rx ry ⟨φ, M, a, b, R, r1, r2, h⟩
  unfold opSub at h
  split at h
  · obtain rfl := r1.int_inv; obtain rfl := r2.int_inv
    exact op_sub pins s σ H _ _ v u Q I rx ry ⟨_, _, rfl, rfl, h.ofI R⟩
  · exact h.elim
theorem rep_rel {vs : List V} {ws : List W} (r : VRs K φ H vs ws) : ∀ n : Nat, VRs K φ H (List.replicate n vs).flatten (List.replicate n ws).flatten
  | 0 => .nil
  | n + 1 => by
    rw [List.replicate_succ, List.replicate_succ, List.flatten_cons, List.flatten_cons]
    exact r.append (rep_rel r n)
theorem or_mul : OpR X (binaryOp .Mult) (rel2 X.K X.mg opMul) := by
  intro pins s σ H x y v u Q I rx ry ⟨φ, M, a, b, R, r1, r2, h⟩
  unfold opMul at h
  split at h
  · obtain rfl := r1.int_inv; obtain rfl := r2.int_inv
    split at h
    · rename_i hz
      exact op_mul pins s σ H _ _ v u Q I rx ry ⟨_, _, rfl, rfl, by unfold CMul; omega, h.ofI R⟩
    · exact h.elim
  · obtain rfl := r2.int_inv
    split at h
    · rename_i h1
      obtain ⟨p, xs, rfl, e1, hx, rx1⟩ := r1.lst R h1
      split at h
      · rename_i hz
        exact op_rep pins s σ H _ _ v u Q I rx ry ⟨p, _, xs, rfl, rfl, hx, by omega, by omega, by rw [rx1.length]; exact hz.2, fun l hl => h.ofL R (rep_rel rx1 _) l hl⟩
      · exact h.elim
    · exact h.elim
  · exact h.elim
theorem or_floorDiv : OpR X (binaryOp .FloorDiv) (rel2 X.K X.mg opFloorDiv) := by
  intro pins s σ H x y v u Q I rx ry ⟨φ, M, a, b, R, r1, r2, h⟩
  unfold opFloorDiv at h
  split at h
  · obtain rfl := r1.int_inv; obtain rfl := r2.int_inv
    split at h
    · rename_i hz
      exact op_fdivW pins s σ H _ _ v u Q I rx ry ⟨_, _, rfl, rfl, hz, h.ofI R⟩
    · exact h.elim
  · exact h.elim
theorem or_mod : OpR X (binaryOp .Mod) (rel2 X.K X.mg opMod) := by
  intro pins s σ H x y v u Q I rx ry ⟨φ, M, a, b, R, r1, r2, h⟩
  unfold opMod at h
  split at h
  · obtain rfl := r1.int_inv; obtain rfl := r2.int_inv
    split at h
    · rename_i hz
      exact op_mod pins s σ H _ _ v u Q I rx ry ⟨_, _, rfl, rfl, hz, h.ofI R⟩
    · exact h.elim
  · exact h.elim
theorem or_pow : OpR X (binaryOp .Pow) (rel2 X.K X.mg opPow) := by
  intro pins s σ H x y v u Q I rx ry ⟨φ, M, a, b, R, r1, r2, h⟩
  unfold opPow at h
  split at h
  · obtain rfl := r1.int_inv; obtain rfl := r2.int_inv
    split at h
    · rename_i hz
      exact op_pow pins s σ H _ _ v u Q I rx ry ⟨_, _, rfl, rfl, ⟨by omega, by omega, by omega⟩, h.ofI R⟩
    · exact h.elim
  · exact h.elim
theorem or_neg : UnR X (unaryOp .USub) (rel1 X.K X.mg opNeg) := by
  intro pins s σ H x v Q I rx ⟨φ, M, a, R, r1, h⟩
  unfold opNeg at h
  split at h
  · obtain rfl := r1.int_inv
    exact un_neg pins s σ H _ v Q I rx ⟨_, rfl, h.ofI R⟩
  · exact h.elim

/-! ### comparisons -/
theorem or_eq (hr : Room k X.A) : OpR X (compareOp .Eq) (rel2 X.K X.mg opEq) := by
  intro pins s σ H x y v u Q I rx ry ⟨φ, M, a, b, R, r1, r2, h⟩
  unfold opEq opEqB at h
  split at h
  · rename_i d e h1 h2
    split at h
    · rename_i hz
      obtain ⟨d1, c1⟩ := dataW_dp R _ r1 h1
      obtain ⟨d2, c2⟩ := dataW_dp R _ r2 h2
      obtain ⟨as, q1⟩ := Dp.reads I d x v d1 rx
      obtain ⟨bs, q2⟩ := Dp.reads I e y u d2 ry
      exact SeqAt.compareEq_reads q1 q2 c1 c2 (by have := hr.units; simp only [roomDeep] at hz; omega) ⟨.bl _, H, I, rfl, by simpa using h.ofB R⟩
    · exact h.elim
  · exact h.elim
theorem or_ne (hr : Room k X.A) : OpR X (compareOp .NotEq) (rel2 X.K X.mg opNe) := by
  intro pins s σ H x y v u Q I rx ry ⟨φ, M, a, b, R, r1, r2, h⟩
  unfold opNe opEqB at h
  split at h
  · rename_i d e h1 h2
    split at h
    · rename_i hz
      obtain ⟨d1, c1⟩ := dataW_dp R _ r1 h1
      obtain ⟨d2, c2⟩ := dataW_dp R _ r2 h2
      obtain ⟨as, q1⟩ := Dp.reads I d x v d1 rx
      obtain ⟨bs, q2⟩ := Dp.reads I e y u d2 ry
      exact SeqAt.compareNe_reads q1 q2 c1 c2 (by have := hr.units; simp only [roomDeep] at hz; omega) ⟨.bl _, H, I, rfl, by simpa using h.ofB R⟩
    · exact h.elim
  · exact h.elim
theorem or_cmp {op : CmpOp} {f : Int → Int → Bool} (ho : OpR X (compareOp op) (rI0 fun i j => .bl (f i j))) : OpR X (compareOp op) (rel2 X.K X.mg (cmpI f)) := by
  intro pins s σ H x y v u Q I rx ry ⟨φ, M, a, b, R, r1, r2, h⟩
  unfold cmpI at h
  split at h
  · obtain rfl := r1.int_inv; obtain rfl := r2.int_inv
    exact ho pins s σ H _ _ v u Q I rx ry ⟨_, _, rfl, rfl, h.ofB R⟩
  · exact h.elim
theorem or_lt : OpR X (compareOp .Lt) (rel2 X.K X.mg opLt) := or_cmp op_lt
theorem or_le : OpR X (compareOp .LtE) (rel2 X.K X.mg opLe) := or_cmp op_le
theorem or_gt : OpR X (compareOp .Gt) (rel2 X.K X.mg opGt) := or_cmp op_gt
theorem or_ge : OpR X (compareOp .GtE) (rel2 X.K X.mg opGe) := or_cmp op_ge
theorem isN_VR {v : V} {w : W} (r : VR K φ H v w) : isN w = decide (v = .non) := by
  cases r with
  | d r => cases r <;> simp [isN]
  | ref _ => simp [isN]
  | mix _ _ => simp [isN]
theorem or_isN : OpR X (compareOp .Is) (rel2 X.K X.mg (opIsN false)) := by
  intro pins s σ H x y v u Q I rx ry ⟨φ, M, a, b, R, r1, r2, h⟩
  unfold opIsN at h
  split at h
  · obtain rfl := r2.none_inv
    refine op_isN pins s σ H _ _ v u Q I rx ry ⟨rfl, ?_⟩
    rw [← isN_VR r1]; simpa using h.ofB R
  · exact h.elim
theorem or_notN : OpR X (compareOp .IsNot) (rel2 X.K X.mg (opIsN true)) := by
  intro pins s σ H x y v u Q I rx ry ⟨φ, M, a, b, R, r1, r2, h⟩
  unfold opIsN at h
  split at h
  · obtain rfl := r2.none_inv
    refine op_notN pins s σ H _ _ v u Q I rx ry ⟨rfl, ?_⟩
    rw [← isN_VR r1]; simpa using h.ofB R
  · exact h.elim
theorem or_isB : OpR X (compareOp .Is) (rel2 X.K X.mg (opIsB false)) := by
  intro pins s σ H x y v u Q I rx ry ⟨φ, M, a, b, R, r1, r2, h⟩
  unfold opIsB at h
  split at h
  · obtain rfl := r1.bool_inv; obtain rfl := r2.bool_inv
    exact op_is_bl pins s σ H _ _ v u Q I rx ry ⟨_, _, rfl, rfl, by simpa using h.ofB R⟩
  · obtain ⟨p, rfl, _⟩ := r1.ref_inv; obtain rfl := r2.bool_inv
    cases rx; cases ry
    exact wpAny_is_other rfl (fun z => by cases z) ⟨.bl false, H, I, rfl, h.ofB R⟩
  · exact h.elim
theorem or_notB : OpR X (compareOp .IsNot) (rel2 X.K X.mg (opIsB true)) := by
  intro pins s σ H x y v u Q I rx ry ⟨φ, M, a, b, R, r1, r2, h⟩
  unfold opIsB at h
  split at h
  · obtain rfl := r1.bool_inv; obtain rfl := r2.bool_inv
    exact op_isnot_bl pins s σ H _ _ v u Q I rx ry ⟨_, _, rfl, rfl, by simpa using h.ofB R⟩
  · obtain ⟨p, rfl, _⟩ := r1.ref_inv; obtain rfl := r2.bool_inv
    cases rx; cases ry
    exact wpAny_isNot_other rfl (fun z => by cases z) ⟨.bl true, H, I, rfl, h.ofB R⟩
  · exact h.elim
end
end Mi
end

section
set_option maxHeartbeats 4000000
/-! MiP2: in, subscripts, slices, built-ins. -/
namespace Mi
open PySem PySem.Spec PyProof.Rows L2

section
variable {X : Cx} {K : Fr} {mg : Mg} {φ : Phi} {M : Hh} {H : Hp} {Q : VK} {E : XK} {k : Nat}
/-! ### dicts -/
theorem find_rel {κ : Type} [DecidableEq κ] {key : κ} : ∀ {ks : List (κ × V)} {kvs : List (κ × W)}, ks.map (·.1) = kvs.map (·.1) → VRs K φ H (ks.map (·.2)) (kvs.map (·.2)) →
    (valV ks key = none ∧ look kvs key = none) ∨ ∃ v w, valV ks key = some v ∧ look kvs key = some w ∧ VR K φ H v w
  | [], [], _, _ => .inl ⟨rfl, rfl⟩
  | p :: ks, q :: kvs, hk, hv => by
    obtain ⟨k1, v⟩ := p
    obtain ⟨k2, w⟩ := q
    simp only [List.map_cons, List.cons.injEq] at hk hv
    obtain ⟨rfl, hk⟩ := hk
    cases hv with
    | cons r hv =>
      unfold valV look
      rw [List.find?_cons, List.find?_cons]
      by_cases e : k1 = key
      · subst e
        exact .inr ⟨v, w, by simp, by simp, r⟩
      · simp only [e, decide_false]
        exact find_rel hk hv
  | [], _ :: _, hk, _ => by simp at hk
  | _ :: _, [], hk, _ => by simp at hk
theorem any_rel {κ : Type} [DecidableEq κ] {key : κ} : ∀ {ks : List (κ × V)} {kvs : List (κ × W)}, ks.map (·.1) = kvs.map (·.1) → (ks.any fun kv => decide (kv.1 = key)) = kvs.any fun kv => decide (kv.1 = key)
  | [], [], _ => rfl
  | p :: ks, q :: kvs, hk => by
    simp only [List.map_cons, List.cons.injEq] at hk
    rw [List.any_cons, List.any_cons, hk.1, any_rel hk.2]
  | [], _ :: _, hk => by simp at hk
  | _ :: _, [], hk => by simp at hk
theorem put_rel {κ : Type} [DecidableEq κ] {key : κ} {v : V} {w : W} (r : VR K φ H v w) {ks : List (κ × V)} {kvs : List (κ × W)} (hk : ks.map (·.1) = kvs.map (·.1)) (hv : VRs K φ H (ks.map (·.2)) (kvs.map (·.2))) :
    (putK ks key v).map (·.1) = (put kvs key w).map (·.1) ∧ VRs K φ H ((putK ks key v).map (·.2)) ((put kvs key w).map (·.2)) := by
  unfold putK put
  rw [any_rel hk]
  split
  · have go : ∀ {ks : List (κ × V)} {kvs : List (κ × W)}, ks.map (·.1) = kvs.map (·.1) → VRs K φ H (ks.map (·.2)) (kvs.map (·.2)) →
        (ks.map (fun kv => if kv.1 = key then (kv.1, v) else kv)).map (·.1) = (kvs.map (fun kv => if kv.1 = key then (kv.1, w) else kv)).map (·.1) ∧
        VRs K φ H ((ks.map (fun kv => if kv.1 = key then (kv.1, v) else kv)).map (·.2)) ((kvs.map (fun kv => if kv.1 = key then (kv.1, w) else kv)).map (·.2)) := by
      intro ks
      induction ks with
      | nil => intro kvs hk hv; cases kvs with
        | nil => exact ⟨rfl, .nil⟩
        | cons _ _ => simp at hk
      | cons p ks ih => intro kvs hk hv; cases kvs with
        | nil => simp at hk
        | cons q kvs =>
          simp only [List.map_cons, List.cons.injEq] at hk hv ⊢
          cases hv with
          | cons rr hv =>
            obtain ⟨a, b⟩ := ih hk.2 hv
            rw [hk.1]
            by_cases e : q.1 = key
            · simp only [e, if_true]
              exact ⟨⟨trivial, a⟩, .cons r b⟩
            · simp only [e, if_false]
              exact ⟨⟨hk.1, a⟩, .cons rr b⟩
    exact go hk hv
  · rw [List.map_append, List.map_append, List.map_append, List.map_append, hk]
    exact ⟨rfl, hv.append (.cons r .nil)⟩
theorem keyW_VR {v : V} {w : W} {key : Key} (r : VR K φ H v w) (h : keyW w = some key) : v = kV key := by
  unfold keyW at h
  split at h
  · cases h; exact r.int_inv
  · cases h; exact r.str_inv
  · cases h
theorem keysD_DR : ∀ {vs : List V} {xs : List PyData} {ks : List Key}, DRs K H vs xs → xs.mapM keyD = some ks → vs = ks.map kV
  | _, _, _, .nil, h => by cases h; rfl
  | _, _, _, .cons r s, h => by
    obtain ⟨y, ys, h1, h2, rfl⟩ := mapM_cons_some h
    rw [List.map_cons, ← keysD_DR s h2]
    unfold keyD at h1
    split at h1
    · cases h1; cases r; rfl
    · cases h1; cases r; rfl
    · cases h1
theorem keysW_VR {v : V} {w : W} {ks : List Key} (r : VR K φ H v w) (h : keysW w = some ks) : ∃ b, v = .ref b ∧ H b = some (.tup (ks.map kV)) := by
  cases h
/-- what is held at a key -/
theorem dget_ok {o : O} {a : Addr} {y : V} {w : W} {r : Option W} (ho : OR K mg φ H a o) (ry : VR K φ H y w) (h : dget o w = some r) : ∃ z, DGet H a y z ∧ ((z = none ∧ r = none) ∨ ∃ v u, z = some v ∧ r = some u ∧ VR K φ H v u) := by
  cases o with
  | lst _ => cases h
  | ins _ _ => cases h
  | dk kvs =>
    obtain ⟨ks, hs, hk, hv⟩ := ho
    unfold dget at h
    cases e : keyW w with
    | none => rw [e] at h; cases h
    | some key =>
      rw [e] at h; cases h
      rw [keyW_VR ry e]
      refine ⟨_, .k hs, ?_⟩
      rcases find_rel (key := key) hk hv with ⟨h1, h2⟩ | ⟨v, u, h1, h2, r⟩
      · exact .inl ⟨h1, h2⟩
      · exact .inr ⟨v, u, h1, h2, r⟩
  | dt kvs =>
    obtain ⟨ks, hs, hk, hv⟩ := ho
    unfold dget at h
    cases e : keysW w with
    | none => rw [e] at h; cases h
    | some key =>
      rw [e] at h; cases h
      obtain ⟨b, rfl, hb⟩ := keysW_VR ry e
      refine ⟨_, .t hs hb, ?_⟩
      rcases find_rel (key := key) hk hv with ⟨h1, h2⟩ | ⟨v, u, h1, h2, r⟩
      · exact .inl ⟨h1, h2⟩
      · exact .inr ⟨v, u, h1, h2, r⟩
theorem DGet.some_eq {z : Option V} {r : Option W} (h : (z = none ∧ r = none) ∨ ∃ v u, z = some v ∧ r = some u ∧ VR K φ H v u) : z.isSome = r.isSome := by
  rcases h with ⟨rfl, rfl⟩ | ⟨v, u, rfl, rfl, _⟩ <;> rfl

/-! ### in, not in -/
theorem or_inB {neg : Bool} {op : CmpOp} (hr : Room k X.A) (e : op = if neg then .NotIn else .In) : OpR X (compareOp op) (rel2 X.K X.mg (opInB neg)) := by
  intro pins s σ H x y v u Q I rx ry ⟨φ, M, a, b, R, r1, r2, h⟩
  have hu1 : X.A.units + 64 < cLine := hr.units
  unfold opInB at h
  split at h
  · rename_i p
    split at h
    · rename_i ws hm
      split at h
      · rename_i xs d h1 h2
        split at h
        · rename_i hz
          obtain ⟨d1, c1⟩ := dataW_dp R _ r1 h2
          obtain ⟨d2, c2⟩ := dataW_dp R _ r2 h1
          obtain ⟨as, q1⟩ := Dp.reads I d x v d1 rx
          obtain ⟨bs, q2⟩ := Dp.reads I _ y u d2 ry
          cases neg with
          | false => subst e; exact SeqAt.in_list_reads q2 q1 (by simpa [PyData.canLay0] using c2) c1 (by simp only [roomDeep] at hz; omega) ⟨.bl _, H, I, rfl, by simpa using h.ofB R⟩
          | true => subst e; exact SeqAt.notIn_list_reads q2 q1 (by simpa [PyData.canLay0] using c2) c1 (by simp only [roomDeep] at hz; omega) ⟨.bl _, H, I, rfl, by simpa using h.ofB R⟩
        · exact h.elim
      · exact h.elim
    · rename_i o hm ho
      obtain ⟨q, rfl, eq⟩ := r2.ref_inv
      have ho := R.ob' ho eq
      cases hd : dget o a with
      | none => rw [hd] at h; exact h.elim
      | some r =>
        rw [hd] at h
        obtain ⟨z, g, hz⟩ := dget_ok ho r1 hd
        obtain rfl : u = Value.ref q := ry
        have hs := DGet.some_eq hz
        cases neg with
        | false => subst e; exact d_in (by omega) I g rx fun s' I' => ⟨.bl _, H, I', rfl, by rw [hs]; simpa using h.ofB R⟩
        | true => subst e; exact d_notIn (by omega) I g rx fun s' I' => ⟨.bl _, H, I', rfl, by rw [hs]; simpa using h.ofB R⟩
    · exact h.elim
  · rename_i z
    split at h
    · rename_i y'
      split at h
      · rename_i hl
        obtain rfl := r1.str_inv
        obtain rfl := r2.str_inv
        obtain ⟨c, hc⟩ : ∃ c, y' = ⟨#[c]⟩ := by
          obtain ⟨⟨l⟩⟩ := y'
          match l, hl with
          | [c], _ => exact ⟨c, rfl⟩
        subst hc
        cases neg with
        | false => subst e; exact op_in_sign pins s σ H _ _ v u Q I rx ry ⟨c, z, rfl, rfl, by simpa using h.ofB R⟩
        | true => subst e; exact op_notIn_sign pins s σ H _ _ v u Q I rx ry ⟨c, z, rfl, rfl, by simpa using h.ofB R⟩
      · exact h.elim
    · exact h.elim
  · split at h
    · rename_i xs d h1 h2
      split at h
      · rename_i hz
        obtain ⟨d1, c1⟩ := dataW_dp R _ r1 h2
        obtain ⟨d2, c2⟩ := dataW_dp R _ r2 h1
        obtain ⟨as, q1⟩ := Dp.reads I d x v d1 rx
        obtain ⟨bs, q2⟩ := Dp.reads I _ y u d2 ry
        cases neg with
        | false => subst e; exact SeqAt.in_tuple_reads q2 q1 (by simpa [PyData.canLay0] using c2) c1 (by simp only [roomDeep] at hz; omega) ⟨.bl _, H, I, rfl, by simpa using h.ofB R⟩
        | true => subst e; exact SeqAt.notIn_tuple_reads q2 q1 (by simpa [PyData.canLay0] using c2) c1 (by simp only [roomDeep] at hz; omega) ⟨.bl _, H, I, rfl, by simpa using h.ofB R⟩
      · exact h.elim
    · exact h.elim
theorem or_in (hr : Room k X.A) : OpR X (compareOp .In) (rel2 X.K X.mg opIn) := or_inB (neg := false) hr rfl
theorem or_notIn (hr : Room k X.A) : OpR X (compareOp .NotIn) (rel2 X.K X.mg opNotIn) := or_inB (neg := true) hr rfl

/-! ### subscripts -/
theorem atI_rel {vs : List V} {ws : List W} {i : Int} {w : W} (r : VRs K φ H vs ws) (h : Mi.atI ws i = some w) : ∃ v, L2.atI vs i = some v ∧ VR K φ H v w := by
  unfold Mi.atI Mi.ixN at h
  unfold L2.atI L2.ixN
  rw [r.length]
  cases e : (if 0 ≤ i then (if i < (ws.length : Int) then some i.toNat else none) else if -(ws.length : Int) ≤ i then some (i + (ws.length : Int)).toNat else none) with
  | none => rw [e] at h; cases h
  | some j => rw [e] at h; exact r.get' h
theorem ix_dict (hr : Room k X.A) : IxR X (fun x y H Q => ∃ a z, x = .ref a ∧ DGet H a y (some z) ∧ Q z H) := by
  intro value slice pins s σ H x y v u Q I rx ry h hs
  obtain ⟨a, z, rfl, g, q⟩ := h
  obtain rfl : v = Value.ref a := rx
  have hu := hr.units
  rcases id g with ⟨kvs, key, e, ey, l⟩ | ⟨kvs, key, b, e, ey, eb, l⟩
  · subst ey
    obtain ⟨_, _, vs, rel, dd⟩ := dk_rd I.hok e
    obtain ⟨got, hw, rgot⟩ := RelO.some_of (v := z) (o := valueAt vs key) (by rw [l]; exact rel.val key)
    exact subscriptTail_builtinR (x := got) (dict_typeIs I g) PySem.F.slot_dict_getitem.lookup (wpAny_getItem_of (kV_is ry) dd.mapOf hw ⟨rfl, z, H, I.tok _, rgot, q⟩) hs
  · subst ey
    cases (show u = Value.ref b from ry)
    obtain ⟨_, _, xs, rel, dd⟩ := dt_rd I.hok e
    obtain ⟨got, hw, rgot⟩ := RelO.some_of (v := z) (o := (atKey xs key).map (·.2)) (by rw [l]; exact rel.val key)
    obtain ⟨p, hp, hp2⟩ := Option.map_eq_some_iff.mp hw
    exact subscriptTail_builtinR (x := got) (dict_typeIs I g) PySem.F.slot_dict_getitem.lookup (wpAny_getItem_heap (tupleKind_room_in1 (by omega)) (key_of I.hok eb) dd hp ⟨hp2, z, H, I.tok _, by rw [hp2]; exact rgot, q⟩) hs
theorem xr_ix (hr : Room k X.A) : IxR X (rel2 X.K X.mg opIx) := by
  intro value slice pins s σ H x y v u Q I rx ry ⟨φ, M, a, b, R, r1, r2, h⟩ hs
  unfold opIx at h
  split at h
  · rename_i p
    split at h
    · rename_i ws hm
      obtain ⟨q, vs, rfl, eq, hq, rvs⟩ := r1.lst R hm
      split at h
      · rename_i i
        obtain rfl := r2.int_inv
        cases hi : Mi.atI ws i with
        | none => rw [hi] at h; exact h.elim
        | some w =>
          rw [hi] at h
          obtain ⟨z, hz, rz⟩ := atI_rel rvs hi
          exact ix_list value slice pins s σ H _ _ v u Q I rx ry ⟨q, vs, i, z, rfl, rfl, .of hq, hz, h.ofV R rz⟩ hs
      · exact h.elim
    · rename_i o hm ho
      obtain ⟨q, rfl, eq⟩ := r1.ref_inv
      have ho := R.ob' ho eq
      split at h
      · rename_i w hd
        obtain ⟨z, g, hz⟩ := dget_ok ho r2 hd
        rcases hz with ⟨_, hz⟩ | ⟨z', w', rfl, hw, rz⟩
        · cases hz
        · cases hw
          exact ix_dict hr value slice pins s σ H _ _ v u Q I rx ry ⟨q, z', rfl, g, h.ofV R rz⟩ hs
      · exact h.elim
    · exact h.elim
  · rename_i xs
    obtain ⟨q, vs, rfl, sq, rvs⟩ := r1.rol_inv
    split at h
    · rename_i i
      obtain rfl := r2.int_inv
      cases hi : Mi.atI xs i with
      | none => rw [hi] at h; exact h.elim
      | some w =>
        rw [hi] at h
        have hi' : Mi.atI (xs.map W.d) i = some (.d w) := by
          unfold Mi.atI at hi ⊢
          rw [List.length_map]
          cases e : Mi.ixN xs.length i with
          | none => rw [e] at hi; cases hi
          | some j => rw [e] at hi; simp only [Option.bind_some] at hi ⊢; rw [List.getElem?_map, hi]; rfl
        obtain ⟨z, hz, rz⟩ := atI_rel (φ := φ) (VRs.ofD rvs) hi'
        exact ix_list value slice pins s σ H _ _ v u Q I rx ry ⟨q, vs, i, z, rfl, rfl, sq, hz, h.ofV R rz⟩ hs
    · exact h.elim
  · rename_i z
    have ok := r1.str_ok
    obtain rfl := r1.str_inv
    split at h
    · rename_i i
      obtain rfl := r2.int_inv
      split at h
      · rename_i hz
        cases hi : Mi.atI z.cps.toList i with
        | none => rw [hi] at h; exact h.elim
        | some c =>
          rw [hi] at h
          have hi' : L2.atI z.cps.toList i = some c := hi
          have hc : c ∈ z.cps.toList := by
            unfold Mi.atI at hi
            cases e : Mi.ixN z.cps.toList.length i with
            | none => rw [e] at hi; cases hi
            | some j => rw [e] at hi; exact List.mem_of_getElem? hi
          have okc : PyData.strOk ⟨#[c]⟩ = true := by
            unfold PyData.strOk at ok ⊢
            rw [← Array.all_toList] at ok ⊢
            have := List.all_eq_true.mp ok c hc
            simpa using this
          exact ix_str value slice pins s σ H _ _ v u Q I rx ry ⟨z, i, c, rfl, rfl, hz, hi', h.ofS R okc⟩ hs
      · exact h.elim
    · exact h.elim
  · split at h
    · rename_i ws i h1
      obtain ⟨q, vs, rfl, eq, rvs⟩ := r1.items h1
      obtain rfl := r2.int_inv
      cases hi : Mi.atI ws i with
      | none => rw [hi] at h; exact h.elim
      | some w =>
        rw [hi] at h
        obtain ⟨z, hz, rz⟩ := atI_rel rvs hi
        exact ix_tup value slice pins s σ H _ _ v u Q I rx ry ⟨q, vs, i, z, rfl, rfl, eq.sq, hz, h.ofV R rz⟩ hs
    · exact h.elim
theorem ps_ix (hr : Room k X.A) : PSet X (relSet X.K X.mg setIx) := by
  intro pins s σ H o i v ov iv u Q I ro ri rv ⟨φ, M, wo, wi, wv, M', R, r1, r2, r3, h, q⟩
  have hu := hr.units
  unfold setIx at h
  split at h
  · rename_i p
    split at h
    · rename_i ws hm
      obtain ⟨a, vs, rfl, ea, ha, rvs⟩ := r1.lst R hm
      split at h
      · rename_i n
        obtain rfl := r2.int_inv
        cases hj : Mi.ixN ws.length n with
        | none => rw [hj] at h; cases h
        | some j =>
          rw [hj] at h; cases h
          refine set_list pins s σ H _ _ v ov iv u Q I ro ri rv ⟨a, vs, n, j, rfl, rfl, ha, ?_, q _ _ (R.lst ea ha (rvs.set j r3)) .refl (.lst ha)⟩
          rw [rvs.length]; exact hj
      · cases h
    · rename_i kvs hm
      obtain ⟨a, rfl, ea⟩ := r1.ref_inv
      obtain ⟨ks, ha, hk, hv⟩ := R.ob' hm ea
      split at h
      · rename_i key hkey
        split at h
        · rename_i hz
          cases h
          obtain rfl := keyW_VR r2 hkey
          obtain rfl : ov = Value.ref a := ro
          have hlen : ks.length = kvs.length := by have := congrArg List.length hk; simpa using this
          refine d_setItem (by omega) I (.k ha (by rw [hlen]; exact hz)) ri rv fun s' I' => ⟨_, I', q φ _ (R.write ea ha (by intro _ e; cases e) (by intro _ _ e; cases e) ?_) .refl (.write ha (by intro _ e; cases e) (by intro _ _ e; cases e))⟩
          obtain ⟨p1, p2⟩ := put_rel (key := key) r3 hk hv
          exact ⟨_, upd_same, p1, p2.mono .refl (.write ha (by intro _ e; cases e) (by intro _ _ e; cases e))⟩
        · cases h
      · cases h
    · rename_i kvs hm
      obtain ⟨a, rfl, ea⟩ := r1.ref_inv
      obtain ⟨ks, ha, hk, hv⟩ := R.ob' hm ea
      split at h
      · rename_i key hkey
        split at h
        · rename_i hz
          cases h
          obtain ⟨b, rfl, hb⟩ := keysW_VR r2 hkey
          obtain rfl : ov = Value.ref a := ro
          have hlen : ks.length = kvs.length := by have := congrArg List.length hk; simpa using this
          refine d_setItem (by omega) I (.t ha hb (by rw [hlen]; exact hz)) ri rv fun s' I' => ⟨_, I', q φ _ (R.write ea ha (by intro _ e; cases e) (by intro _ _ e; cases e) ?_) .refl (.write ha (by intro _ e; cases e) (by intro _ _ e; cases e))⟩
          obtain ⟨p1, p2⟩ := put_rel (key := key) r3 hk hv
          exact ⟨_, upd_same, p1, p2.mono .refl (.write ha (by intro _ e; cases e) (by intro _ _ e; cases e))⟩
        · cases h
      · cases h
    · cases h
  · cases h

/-! ### slices -/
theorem cut_rel {vs : List V} {ws : List W} (r : VRs K φ H vs ws) (lo hi : Option Int) : VRs K φ H (cutV vs lo hi) (cut ws lo hi) := by
  unfold cutV cut
  rw [r.length]
  exact (r.drop _).take _
def relSl (K : Fr) (mg : Mg) (f : OpS) : V → Option Int → Option Int → Hp → VK → Prop := fun x lo hi H Q => ∃ φ M w, Rel K mg φ M H ∧ VR K φ H x w ∧ Res K mg (VR K) φ H (R.of (f w lo hi M)) Q E0
/-- t[lo:hi] of a tuple: the whole of it is t itself -/
theorem sl_tupF : SlR X (fun x lo hi H Q => ∃ a xs, x = .ref a ∧ SqT X.K H a xs ∧ (HT.sIx xs.length 0 lo = 0 ∧ HT.sIx xs.length xs.length hi = xs.length → Q (.ref a) H) ∧
    (¬ (HT.sIx xs.length 0 lo = 0 ∧ HT.sIx xs.length xs.length hi = xs.length) → ∀ (its : List Value) (p : Addr), H p = none → Q (.ref p) (upd H p (.frz (plT its) (.tup (cutV xs lo hi)))))) := by
  intro pins s σ H x v vl vu lo hi sl Q I rx hs pl pu h
  by_cases hw : ∃ a xs, x = .ref a ∧ SqT X.K H a xs ∧ (HT.sIx xs.length 0 lo = 0 ∧ HT.sIx xs.length xs.length hi = xs.length)
  · obtain ⟨a, xs, e1, hx, hw⟩ := hw
    obtain ⟨a', xs', e2, hx', q1, q2⟩ := h
    subst e1
    cases e2
    obtain rfl := I.tuple_inj hx hx'
    exact sl_tupA pins s σ H _ v vl vu lo hi sl Q I rx hs pl pu ⟨a, xs, rfl, hx, q1, fun z => absurd hw z⟩
  · obtain ⟨a, xs, e1, hx, q1, q2⟩ := h
    have hn : ¬ (HT.sIx xs.length 0 lo = 0 ∧ HT.sIx xs.length xs.length hi = xs.length) := fun z => hw ⟨a, xs, e1, hx, z⟩
    subst e1
    cases rx
    obtain ⟨us, ra, ta, hz⟩ := I.tuple hx
    have hl : us.toArray.size = xs.length := by rw [List.size_toArray, ra.length]
    refine ⟨"tuple", _, PyProof.Rows.slot_tuple_getitem.lookup, ta.typeIs, HT.getItem_tuple_cut ta hs pl pu (by rw [hl]; exact hn) ?_ (by rw [hl]; exact hz)⟩
    rw [hl]
    have rc := (ra.drop (HT.sIx xs.length 0 lo)).take (HT.sIx xs.length xs.length hi - HT.sIx xs.length 0 lo)
    have new := Heap.get?_push_size s.heap (o := plT ((us.drop (HT.sIx xs.length 0 lo)).take (HT.sIx xs.length xs.length hi - HT.sIx xs.length 0 lo))) rfl
    exact ⟨.ref s.heap.objs.size, _, I.laid (t' := s.toks) (o := .frz _ (.tup (cutV xs lo hi))) (fun _ _ z => Heap.get?_push_of_some _ z) (Nat.le_refl _) ⟨new, Nat.le_trans (cutV_length xs lo hi) hz, _, rc, ⟨_, new, rfl, _, rfl⟩⟩, rfl, q2 hn _ _ (I.hok.fresh (Nat.le_refl _))⟩
theorem sr_sl : SlR X (relSl X.K X.mg opSl) := by
  intro pins s σ H x v vl vu lo hi sl Q I rx hs pl pu ⟨φ, M, a, R, r1, h⟩
  unfold opSl at h
  split at h
  · split at h
    · rename_i ws hm
      obtain ⟨q, vs, rfl, eq, hq, rvs⟩ := r1.lst R hm
      exact sl_list pins s σ H _ v vl vu lo hi sl Q I rx hs pl pu ⟨q, vs, rfl, .of hq, fun p hp => h.ofL R (cut_rel rvs lo hi) p hp⟩
    · exact h.elim
  · rename_i z
    have ok := r1.str_ok
    obtain rfl := r1.str_inv
    split at h
    · rename_i hz
      refine sl_str pins s σ H _ v vl vu lo hi sl Q I rx hs pl pu ⟨z, rfl, hz, h.ofS R ?_⟩
      unfold PyData.strOk at ok ⊢
      rw [← Array.all_toList] at ok ⊢
      refine List.all_eq_true.mpr fun c hc => List.all_eq_true.mp ok c ?_
      unfold cut at hc
      exact List.mem_of_mem_drop (List.mem_of_mem_take (by simpa using hc))
    · exact h.elim
  · split at h
    · rename_i ws h1
      obtain ⟨q, vs, rfl, eq, rvs⟩ := r1.items h1
      refine sl_tupF pins s σ H _ v vl vu lo hi sl Q I rx hs pl pu ⟨q, vs, rfl, eq.sq, fun hw => ?_, fun _ its p hp => h.ofT R (cut_rel rvs lo hi) its p hp⟩
      refine h.ofV R (VR.mkTup eq ?_)
      have := cut_rel rvs lo hi
      unfold cutV at this
      rw [hw.1, hw.2] at this
      simpa using this
    · exact h.elim
variable {Wx : WX} {e a b c : Expr} {m ma mb : EM} {lo hi : Option Expr} {ml mh : PM} {pos p2 : Pos}
def tP (K : Fr) (mg : Mg) (Wx : WX) (m : PM) : TO := fun σ H Q => ∃ φ M L, Rel K mg φ M H ∧ LR K φ H σ L ∧ Res K mg (fun _ _ a b => a = b) φ H (m L M) Q (fun c d H' => Wx c d σ H')
theorem _root_.L2.PO.imp {X : Cx} {e : Option Expr} {t t' : TO} (h : PO X e t) (i : ∀ σ H Q, t' σ H Q → t σ H Q) : PO X e t' := ⟨fun pins s σ H Q I q => h.run pins s σ H Q I (i σ H Q q)⟩
theorem mp_none : PO X none (tP X.K X.mg Wx pNone) := po_none.imp fun σ H Q h => by
  obtain ⟨φ, M, L, R, l, h⟩ := h
  exact Res.here h R rfl
theorem mp_some (he : ME X Wx e m) : PO X (some e) (tP X.K X.mg Wx (pSome m)) := (po_some he).imp fun σ H Q h => by
  obtain ⟨φ, M, L, R, l, h⟩ := h
  refine ⟨φ, M, L, R, l, (Res.seq h).imp (fun v H1 ⟨φ1, M1, w, R1, r1, e1, t1, h1⟩ => ?_) fun _ _ _ z => z⟩
  split at h1
  · exact ⟨_, r1.int_inv, Res.here h1 R1 rfl⟩
  · exact h1.elim
theorem me_sl (ha : ME X Wx a ma) (hl : PO X lo (tP X.K X.mg Wx ml)) (hh : PO X hi (tP X.K X.mg Wx mh)) : ME X Wx (.Subscript a (.Slice lo hi none p2) pos) (eSl opSl ma ml mh) := (pe_slice sr_sl ha hl hh).imp fun σ H Q h => by
  obtain ⟨φ, M, L, R, l, h⟩ := h
  refine ⟨φ, M, L, R, l, (Res.seq h).imp (fun v H1 ⟨φ1, M1, w, R1, r1, e1, t1, h1⟩ => ?_) fun _ _ _ z => z⟩
  have l1 := l.mono e1 t1
  refine ⟨φ1, M1, L, R1, l1, (Res.seq h1).imp (fun v2 H2 ⟨φ2, M2, w2, R2, r2, e2, t2, h2⟩ => ?_) fun _ _ _ z => z⟩
  obtain rfl : v2 = w2 := r2
  have l2 := l1.mono e2 t2
  refine ⟨φ2, M2, L, R2, l2, (Res.seq h2).imp (fun v3 H3 ⟨φ3, M3, w3, R3, r3, e3, t3, h3⟩ => ?_) fun _ _ _ z => z⟩
  obtain rfl : v3 = w3 := r3
  exact ⟨φ3, M3, w, R3, r1.mono (e2.trans e3) (t2.trans t3), h3.of0⟩

/-! ### built-ins -/
theorem cr_len : CallR X (.builtin "len") (relN X.K X.mg bLen) := by
  intro pins s σ H xs us Q I r ⟨φ, M, ws, R, rs, h⟩
  unfold bLen at h
  split at h
  · cases rs with | cons r1 rn => cases rn with | nil =>
    split at h
    · rename_i ws hm
      obtain ⟨q, vs, rfl, eq, hq, rvs⟩ := r1.lst R hm
      exact call_len_seq pins s σ H _ us Q I r ⟨q, vs, rfl, .inl (.of hq), by rw [rvs.length]; exact h.ofI R⟩
    · rename_i kvs hm
      obtain ⟨q, rfl, eq⟩ := r1.ref_inv
      obtain ⟨ks, ha, hk, hv⟩ := R.ob' hm eq
      have hlen : ks.length = kvs.length := by have := congrArg List.length hk; simpa using this
      exact call_lenD pins s σ H _ us Q I r ⟨q, ks, rfl, ha, by rw [hlen]; exact h.ofI R⟩
    · rename_i kvs hm
      obtain ⟨q, rfl, eq⟩ := r1.ref_inv
      obtain ⟨ks, ha, hk, hv⟩ := R.ob' hm eq
      have hlen : ks.length = kvs.length := by have := congrArg List.length hk; simpa using this
      exact call_len_dT pins s σ H _ us Q I r ⟨q, ks, rfl, ha, by rw [hlen]; exact h.ofI R⟩
    · exact h.elim
  · cases rs with | cons r1 rn => cases rn with | nil =>
    obtain ⟨q, vs, rfl, sq, rvs⟩ := r1.rol_inv
    have hl : vs.length = _ := (VRs.ofD (φ := φ) rvs).length
    rw [List.length_map] at hl
    exact call_len_seq pins s σ H _ us Q I r ⟨q, vs, rfl, .inl sq, by rw [hl]; exact h.ofI R⟩
  · cases rs with | cons r1 rn => cases rn with | nil =>
    obtain rfl := r1.str_inv
    split at h
    · rename_i hz
      exact call_len_str pins s σ H _ us Q I r ⟨_, rfl, hz, h.ofI R⟩
    · exact h.elim
  · rename_i w _ _ _
    cases rs with | cons r1 rn => cases rn with | nil =>
    cases hi : w.items with
    | none => rw [hi] at h; exact h.elim
    | some ws =>
      rw [hi] at h
      obtain ⟨q, vs, rfl, eq, rvs⟩ := r1.items hi
      exact call_len_seq pins s σ H _ us Q I r ⟨q, vs, rfl, .inr eq.sq, by rw [rvs.length]; exact h.ofI R⟩
  · exact h.elim
theorem cr_int : CallR X (.type "int") (relN X.K X.mg bInt) := by
  intro pins s σ H xs us Q I r ⟨φ, M, ws, R, rs, h⟩
  unfold bInt at h
  split at h
  · cases rs with | cons r1 rn => cases rn with | nil =>
    obtain rfl := r1.int_inv
    exact call_int1 pins s σ H _ us Q I r (.inl ⟨_, rfl, h.ofI R⟩)
  · cases rs with | cons r1 rn => cases rn with | nil =>
    obtain rfl := r1.bool_inv
    exact call_int1 pins s σ H _ us Q I r (.inr ⟨_, rfl, h.ofI R⟩)
  · exact h.elim
theorem call_tupleF : CallR X (.type "tuple") (fun xs H Q => ∃ p ys, xs = [.ref p] ∧ ((SqL X.K H p ys ∧ ∀ (its : List Value) (l : Addr), H l = none → Q (.ref l) (upd H l (.frz (plT its) (.tup ys)))) ∨ (SqT X.K H p ys ∧ Q (.ref p) H))) := by
  intro pins s σ H xs us Q I r ⟨p, ys, ex, h⟩
  subst ex
  obtain ⟨u, rfl, rx⟩ := vals1 r
  cases rx
  rcases h with ⟨hq, q⟩ | ⟨hq, q⟩
  · obtain ⟨zs, rz, pz, hz⟩ := I.list hq
    refine call_tuple_list pz.isList (fun hB kB => ?_) (by rw [List.size_toArray, ← rz.length]; exact hz)
    have IB : Inv X pins σ H { s with heap := hB } := I.kept (t' := s.toks) kB
    have new := Heap.get?_push_size hB (o := plT zs) rfl
    exact ⟨.ref hB.objs.size, _, IB.laid (t' := s.toks) (o := .frz (plT zs) (.tup ys)) (fun _ _ e => Heap.get?_push_of_some _ e) (Nat.le_refl _) ⟨new, hz, zs, rz, ⟨_, new, rfl, _, rfl⟩⟩, rfl, q _ _ (IB.hok.fresh (Nat.le_refl _))⟩
  · obtain ⟨zs, _, pz, _⟩ := I.tuple hq
    exact call_tuple_same pz ⟨.ref p, _, I, rfl, q⟩
theorem cr_tuple : CallR X (.type "tuple") (relN X.K X.mg bTuple) := by
  intro pins s σ H xs us Q I r ⟨φ, M, ws, R, rs, h⟩
  unfold bTuple at h
  split at h
  · cases rs with | cons r1 rn => cases rn with | nil =>
    split at h
    · rename_i ws hm
      obtain ⟨q, vs, rfl, eq, hq, rvs⟩ := r1.lst R hm
      exact call_tupleF pins s σ H _ us Q I r ⟨q, vs, rfl, .inl ⟨.of hq, fun its l hl => h.ofT R rvs its l hl⟩⟩
    · exact h.elim
  · rename_i w _
    cases rs with | cons r1 rn => cases rn with | nil =>
    cases hi : w.items with
    | none => rw [hi] at h; exact h.elim
    | some ws =>
      rw [hi] at h
      obtain ⟨q, vs, rfl, eq, rvs⟩ := r1.items hi
      exact call_tupleF pins s σ H _ us Q I r ⟨q, vs, rfl, .inr ⟨eq.sq, h.ofV R (VR.mkTup eq rvs)⟩⟩
  · exact h.elim
theorem cr_list : CallR X (.type "list") (relN X.K X.mg bList) := by
  intro pins s σ H xs us Q I r ⟨φ, M, ws, R, rs, h⟩
  unfold bList at h
  split at h
  · cases rs with | cons r1 rn => cases rn with | nil =>
    split at h
    · rename_i ws hm
      obtain ⟨q, vs, rfl, eq, hq, rvs⟩ := r1.lst R hm
      exact call_list_of pins s σ H _ us Q I r ⟨q, vs, rfl, .inl (.of hq), fun l hl => h.ofL R rvs l hl⟩
    · exact h.elim
  · rename_i w _
    cases rs with | cons r1 rn => cases rn with | nil =>
    cases hi : w.items with
    | none => rw [hi] at h; exact h.elim
    | some ws =>
      rw [hi] at h
      obtain ⟨q, vs, rfl, eq, rvs⟩ := r1.items hi
      exact call_list_of pins s σ H _ us Q I r ⟨q, vs, rfl, .inr eq.sq, fun l hl => h.ofL R rvs l hl⟩
  · exact h.elim
theorem cr_repr : CallR X (.builtin "repr") (relN X.K X.mg bReprB) := by
  intro pins s σ H xs us Q I r ⟨φ, M, ws, R, rs, h⟩
  unfold bReprB at h
  split at h
  · rename_i b
    cases rs with | cons r1 rn => cases rn with | nil =>
    obtain rfl := r1.bool_inv
    obtain ⟨u, rfl, rfl⟩ := vals1 r
    refine PySem.P.repr_of_bool ⟨.str _, H, I.tok _, ⟨_, rfl⟩, ?_⟩
    have q := h.ofS R (by cases b <;> decide +kernel)
    cases b <;> exact q
  · exact h.elim
theorem mt_app : MtR X "list.append" (fun x xs H Q => relN X.K X.mg mAppend (x :: xs) H Q) := by
  intro pins s σ H x xs v us Q I rx rv ⟨φ, M, ws, R, rs, h⟩
  unfold mAppend at h
  split at h
  · cases rs with | cons r1 rn => cases rn with | cons r2 rn => cases rn with | nil =>
    split at h
    · rename_i ws hm
      obtain ⟨q, vs, rfl, eq, hq, rvs⟩ := r1.lst R hm
      split at h
      · rename_i hz
        exact mt_append pins s σ H _ _ v us Q I rx rv ⟨q, vs, _, rfl, rfl, hq, by rw [rvs.length]; exact hz, h φ _ _ (R.lst eq hq (rvs.append (.cons r2 .nil))) (.d .non) .refl (.lst hq)⟩
      · exact h.elim
    · exact h.elim
  · exact h.elim
theorem mt_ext : MtR X "list.extend" (fun x xs H Q => relN X.K X.mg mExtend (x :: xs) H Q) := by
  intro pins s σ H x xs v us Q I rx rv ⟨φ, M, ws, R, rs, h⟩
  unfold mExtend at h
  split at h
  · cases rs with | cons r1 rn => cases rn with | cons r2 rn => cases rn with | nil =>
    split at h
    · rename_i ws zs hm hm2
      obtain ⟨q, vs, rfl, eq, hq, rvs⟩ := r1.lst R hm
      obtain ⟨q2, vs2, rfl, eq2, hq2, rvs2⟩ := r2.lst R hm2
      split at h
      · rename_i hz
        exact mt_extend pins s σ H _ _ v us Q I rx rv ⟨q, q2, vs, vs2, rfl, rfl, hq, hq2, by rw [rvs.length, rvs2.length]; exact hz, h φ _ _ (R.lst eq hq (rvs.append rvs2)) (.d .non) .refl (.lst hq)⟩
      · exact h.elim
    · exact h.elim
  · exact h.elim
/-- o.m(e, ..), o a list -/
theorem me_metL {name : Str} {id : String} {o : Expr} {es : List Expr} {f : OpN} {mo : EM} {mr : AM} {apos cpos : Pos} (slot : Slot "list" name id) (hty : typeOf (.builtin id) = pure (.type "method_descriptor")) (hm : MtR X id (fun x xs H Q => relN X.K X.mg f (x :: xs) H Q)) (ho : ME X Wx o mo) (ha : MA X Wx (e :: es) mr)
    (hbase : attributeBase o name X.env (eval o X.env) = eval o X.env := by rfl)
    (hfew : ((backTo cpos (starEach (e :: es) X.env)).all (fun x => !x.1) && (backToKw cpos (keywordEach [] X.env)).all (fun x => x.1.isSome)
      && decide ((e :: es).length + ([] : List Keyword).length + (if ([] : List Keyword).isEmpty then 0 else 1) < 30)) = true := by rfl)
    (hline : (apos.endLine == cpos.line) = true := by rfl) (hs : starEach (e :: es) X.env = (false, eval e X.env) :: starEach es X.env := by rfl) (hplain : (backTo cpos (starEach es X.env)).any (·.1) = false := by rfl) :
    ME X Wx (.Call (.Attribute o name apos) (e :: es) [] cpos) (eMetL f mo mr) := (pe_bm PySem.F.plainAttrs_list slot hty hm ho ha hbase hfew hline hs hplain).imp fun σ H Q h => by
  obtain ⟨φ, M, L, R, l, h⟩ := h
  refine ⟨φ, M, L, R, l, (Res.seq h).imp (fun v H1 ⟨φ1, M1, w, R1, r1, e1, t1, h1⟩ => ?_) fun _ _ _ z => z⟩
  split at h1
  · rename_i hl
    unfold isLst at hl
    split at hl
    · split at hl
      · rename_i ws hm
        obtain ⟨q, vs, rfl, eq, hq, rvs⟩ := r1.lst R1 hm
        refine ⟨.inl ⟨rfl, vs, .of hq⟩, φ1, M1, L, R1, l.mono e1 t1, (Res.seq h1).imp (fun vs2 H2 ⟨φ2, M2, ws2, R2, r2, e2, t2, h2⟩ => ?_) fun _ _ _ z => z⟩
        exact ⟨φ2, M2, _, R2, .cons (r1.mono e2 t2) r2, h2.of0⟩
      · cases hl
    · cases hl
  · exact h1.elim
theorem me_append {o : Expr} {mo : EM} {apos cpos : Pos} (ho : ME X Wx o mo) (ha : ME X Wx e m) (h1 : starEach [e] X.env = (false, eval e X.env) :: starEach [] X.env := by rfl)
    (hbase : attributeBase o "append" X.env (eval o X.env) = eval o X.env := by rfl)
    (hfew : ((backTo cpos (starEach (e :: []) X.env)).all (fun x => !x.1) && (backToKw cpos (keywordEach [] X.env)).all (fun x => x.1.isSome)
      && decide ((e :: []).length + ([] : List Keyword).length + (if ([] : List Keyword).isEmpty then 0 else 1) < 30)) = true := by rfl)
    (hline : (apos.endLine == cpos.line) = true := by rfl) (hplain : (backTo cpos (starEach [] X.env)).any (·.1) = false := by rfl) :
    ME X Wx (.Call (.Attribute o "append" apos) [e] [] cpos) (eMetL mAppend mo (aCons m aNil)) := me_metL PySem.F.slot_list_append PySem.F.type_list_append mt_app ho (ma_cons ha ma_nil h1) hbase hfew hline h1 hplain
theorem me_extend {o : Expr} {mo : EM} {apos cpos : Pos} (ho : ME X Wx o mo) (ha : ME X Wx e m) (h1 : starEach [e] X.env = (false, eval e X.env) :: starEach [] X.env := by rfl)
    (hbase : attributeBase o "extend" X.env (eval o X.env) = eval o X.env := by rfl)
    (hfew : ((backTo cpos (starEach (e :: []) X.env)).all (fun x => !x.1) && (backToKw cpos (keywordEach [] X.env)).all (fun x => x.1.isSome)
      && decide ((e :: []).length + ([] : List Keyword).length + (if ([] : List Keyword).isEmpty then 0 else 1) < 30)) = true := by rfl)
    (hline : (apos.endLine == cpos.line) = true := by rfl) (hplain : (backTo cpos (starEach [] X.env)).any (·.1) = false := by rfl) :
    ME X Wx (.Call (.Attribute o "extend" apos) [e] [] cpos) (eMetL mExtend mo (aCons m aNil)) := me_metL PySem.F.slot_list_extend PySem.F.type_list_extend mt_ext ho (ma_cons ha ma_nil h1) hbase hfew hline h1 hplain

/-! ### isinstance -/
theorem tyW_ok (R : Rel K mg φ M H) {v : V} {w : W} {t : String} (r : VR K φ H v w) (h : tyW M w = some t) : TyX K H v (.type t) ∧ t ∈ ["NoneType", "bool", "int", "str", "list", "tuple", "dict"] := by
  unfold tyW at h
  split at h
  · cases h; obtain rfl := r.none_inv; exact ⟨.base .non, by simp⟩
  · cases h; obtain rfl := r.bool_inv; exact ⟨.base (.bl _), by simp⟩
  · cases h; obtain rfl := r.int_inv; exact ⟨.base (.int _), by simp⟩
  · cases h; obtain rfl := r.str_inv; exact ⟨.base (.str _), by simp⟩
  · cases h
    cases r with | d r => cases r with | rol s r =>
    rcases s with ⟨o, s⟩ | ⟨o, its, n, s1, s2, _⟩
    · exact ⟨.base (.frz s), by simp⟩
    · exact ⟨.kList s1 s2, by simp⟩
  · cases h
    cases r with | d r => cases r with | tup s r => obtain ⟨_, s⟩ := s; exact ⟨.fTuple s, by simp⟩
  · cases h
  · cases h
    cases r with | mix s r => obtain ⟨_, s⟩ := s; exact ⟨.fTuple s, by simp⟩
  · obtain ⟨q, rfl, eq⟩ := r.ref_inv
    split at h
    · rename_i hm; cases h; obtain ⟨vs, hv, _⟩ := R.ob' hm eq; exact ⟨.base (.lst hv), by simp⟩
    · rename_i hm; cases h; obtain ⟨vs, hv, _⟩ := R.ob' hm eq; exact ⟨.base (.dK hv), by simp⟩
    · rename_i hm; cases h; obtain ⟨vs, hv, _⟩ := R.ob' hm eq; exact ⟨.base (.dT hv), by simp⟩
    · cases h
def kitOk (T : String) : Bool := ["NoneType", "bool", "int", "str", "list", "tuple", "dict"].all fun t => kitB t T == some (t == T || (t == "bool" && T == "int"))
theorem me_isI {T : String} {x : Str} {p pT : Pos} (hg : Gl X "isinstance") (hm : X.mg "isinstance" = none) (ha : ME X Wx a ma) (gT : Gl X x) (mT : X.mg x = none) (kit : kitOk T = true := by decide +kernel) (hT : bootBuiltins x = some (.type T) := by decide +kernel) (nT : x ≠ "__name__" := by decide) (dT : (x == ("__debug__" : Str)) = false := by decide)
    (hv : bootBuiltins "isinstance" = some (.builtin "isinstance") := by decide +kernel)
    (he : starEach [a, .Name x pT] X.env = (false, eval a X.env) :: starEach [.Name x pT] X.env := by rfl) (he2 : starEach [.Name x pT] X.env = (false, eval (.Name x pT) X.env) :: starEach [] X.env := by rfl) (hpl : (backTo pos (starEach [.Name x pT] X.env)).any (·.1) = false := by rfl) :
    ME X Wx (.Call (.Name "isinstance" p) [a, .Name x pT] [] pos) (eOp1 (isI T) ma) :=
  (pe_callB call_isi hg hm hv (pa_cons ha (pa_cons (pe_bltn (v := .ty T) gT mT hT rfl nT dT) pa_nil he2) he) (by decide) (by decide) he hpl).imp fun σ H Q h => by
    obtain ⟨φ, M, L, R, l, h⟩ := h
    refine ⟨φ, M, L, R, l, (Res.seq h).imp (fun v H1 ⟨φ1, M1, w, R1, r1, e1, t1, h1⟩ => ?_) fun _ _ _ z => z⟩
    unfold isI at h1
    cases ht : tyW M1 w with
    | none => rw [ht] at h1; exact h1.elim
    | some t =>
      rw [ht] at h1
      obtain ⟨ty, mem⟩ := tyW_ok R1 r1 ht
      refine ⟨v, .ty T, .type t, .type T, _, rfl, .ty T, ty, kit_ty ?_, h1.ofB R1⟩
      have := List.all_eq_true.mp kit t mem
      simpa using this
end
end Mi
end

section
set_option maxHeartbeats 4000000
/-! MiT: defs by name, the law's end. -/
namespace Mi
open PySem PySem.Spec PyProof.Rows L2

/-- the def x of the text, its parameters ps: at level k it does what F says -/
def FnP (P : Program) (w : World) (K : Fr) (mg : Mg) (base : Heap) (x : Str) (ps : List Str) (k : Nat) (F : Fn) : Prop :=
  ∃ f fd, FnOk P w K mg base (L2.CX P w) k f fd ps (SPf K mg F) ∧ mg x = some (.ref f) ∧ PySem.W.keepIn K (.ref f) = true ∧ (∀ us : List Value, us.length = ps.length → bindArgs fd ⟨us, []⟩ = pure (ps.zip us)) ∧ ∃ oc od osl, K.lookup f = some ⟨oc, od, .func fd, osl⟩
def FnT (P : Program) (w : World) (K : Fr) (mg : Mg) (base : Heap) (x : Str) (k : Nat) (F : Fn) : Prop := ∃ ps, FnP P w K mg base x ps k F
/-- the text's def x, its statement st -/
def Dx (K : Fr) (mg : Mg) (x : Str) (st : Stmt) : Prop := ∃ f fd, Fun K x x st f fd ∧ mg x = some (.ref f)
abbrev BindsOk (x : Str) (st : Stmt) (ps : List Str) : Prop := ∀ (kV doc pm : Value) (an : Option Addr) (cdv ct : Value) (us : List Value), us.length = ps.length → bindArgs (PySem.W.fnOf x x (defArgs st) (defBody st) (defScope st) .none kV doc pm an cdv ct) ⟨us, []⟩ = pure (ps.zip us)
section
variable {P : Program} {w : World} {K : Fr} {mg : Mg} {base : Heap} {x : Str} {st : Stmt} {N ps : List Str} {k : Nat} {body : SM} {F : Fn}
theorem binds_of {f : Addr} {fd : FuncData} (Fu : Fun K x x st f fd) (hbd : BindsOk x st ps) : ∀ us : List Value, us.length = ps.length → bindArgs fd ⟨us, []⟩ = pure (ps.zip us) := by
  obtain ⟨oc, od, kV, doc, pm, an, cdv, ct, osl, rfl, lk, hcd⟩ := Fu.ex
  exact hbd kV doc pm an cdv ct
theorem look_of {f : Addr} {fd : FuncData} (Fu : Fun K x x st f fd) : ∃ oc od osl, K.lookup f = some ⟨oc, od, .func fd, osl⟩ := by
  obtain ⟨oc, od, kV, doc, pm, an, cdv, ct, osl, rfl, lk, hcd⟩ := Fu.ex
  exact ⟨_, _, _, lk⟩
theorem FnP.mk (D : Dx K mg x st) (S : FnScope N ps (defScope st)) (hbd : BindsOk x st ps)
    (hb : ∀ (f : Addr) (cdv : Value) (A : Around) (outer : List Env) (s : Shared) (H : Hp) (E : XK), Room k (A.deeper (envOfC x (defScope st) s.heap.objs.size f cdv)) →
      MSs (cxOf (L2.CX P w) P w K mg base N x (defScope st) f cdv A outer s H E) (fun cls d _ H => E cls d H) (defBody st) body) :
    FnP P w K mg base x ps (k + 1) (fn ps.length N.length body) := by
  obtain ⟨f, fd, Fu, hm⟩ := D
  exact ⟨f, fd, fnOk_fn Fu S (hb f), hm, Fu.kp, binds_of Fu hbd, look_of Fu⟩
theorem FnT.mk (D : Dx K mg x st) (S : FnScope N ps (defScope st)) (hbd : BindsOk x st ps)
    (hb : ∀ (f : Addr) (cdv : Value) (A : Around) (outer : List Env) (s : Shared) (H : Hp) (E : XK), Room k (A.deeper (envOfC x (defScope st) s.heap.objs.size f cdv)) →
      MSs (cxOf (L2.CX P w) P w K mg base N x (defScope st) f cdv A outer s H E) (fun cls d _ H => E cls d H) (defBody st) body) :
    FnT P w K mg base x (k + 1) (fn ps.length N.length body) := ⟨ps, .mk D S hbd hb⟩
theorem FnT.bad (D : Dx K mg x st) (hbd : BindsOk x st ps) : FnT P w K mg base x k (fun _ _ => .bad) := by
  obtain ⟨f, fd, Fu, hm⟩ := D
  exact ⟨ps, f, fd, fnOk_bad, hm, Fu.kp, binds_of Fu hbd, look_of Fu⟩
theorem FnT.mono {j : Nat} (T : FnT P w K mg base x j F) (h : j ≤ k) : FnT P w K mg base x k F := by
  obtain ⟨ps, f, fd, h1, h2⟩ := T
  exact ⟨ps, f, fd, h1.mono h, h2⟩
/-- by the head's facts -/
theorem Dx.of {h : Heap} {fa : List He.Fa} {fn : List He.FnD} (KI : K.In h) (G : h.Ns mainGlobals mg) (c : He.SaysE fa fn K) (i : Nat) {d : He.FnD} (hd : fn[i]? = some d) (hf : fa[2 * i]? = some (.glo x)) (hk : fa[2 * i + 1]? = some (.keep x))
    (e : d = ⟨(x, none), x, x, defArgs st, defBody st, defScope st⟩) : Dx K mg x st := by
  subst e
  obtain ⟨oc, od, osl, kV, doc, pm, an, cdv, ct, lk, hcd⟩ := c.def_ i hd
  exact ⟨_, _, fun_mk lk hcd (c.fact (2 * i + 1) hk), He.glo_ok KI G (c.fact (2 * i) hf)⟩
end
section
variable {X : Cx} {Wx : WX} {e a b c : Expr} {es : List Expr} {m ma mb : EM} {pos p : Pos} {k j : Nat}
theorem me_fn {x : Str} {F : Fn} {mr : AM} (T : FnT X.prog X.w X.K X.mg X.base x j F) (hr : Room k X.A) (hg : Gl X x) (tk : Takes X Wx) (ha : MA X Wx (e :: es) mr) (hj : j ≤ k := by omega) (hdb : (x == ("__debug__" : Str)) = false := by decide)
    (he : starEach (e :: es) X.env = (false, eval e X.env) :: starEach es X.env := by rfl) (hpl : (backTo pos (starEach es X.env)).any (·.1) = false := by rfl) : ME X Wx (.Call (.Name x p) (e :: es) [] pos) (eCall F mr) := by
  obtain ⟨ps, f, fd, h1, h2, h3, h4, _⟩ := T
  exact me_call h1 (hr.mono hj) hg h2 h3 (.all h4) tk ha hdb he hpl
theorem mt_chain {op op' : CmpOp} {f g : Op2} {mc : EM} (ho : OpR X (compareOp op) (rel2 X.K X.mg f)) (ho' : OpR X (compareOp op') (rel2 X.K X.mg g)) (ha : ME X Wx a ma) (hb : ME X Wx b mb) (hc : ME X Wx c mc)
    (hm : lastMarks [op, op'] [b, c] = false := by with_unfolding_all rfl) : MT X Wx (.Compare a [op, op'] [b, c] pos) (tVal (eChain f g ma mb mc)) := (pt_chain ho ho' ha hb hc hm).imp fun σ H Q h => by
  obtain ⟨φ, M, L, R, l, h⟩ := h
  refine tChain_of (Q := fun x H => ∃ k, x = .bl k ∧ Q k H) ⟨φ, M, L, R, l, (Res.seq h).imp (fun v H1 ⟨φ1, M1, w, R1, r1, e1, t1, h1⟩ => ?_) fun _ _ _ z => z⟩
  cases hb : asBool w with
  | none => simp only [hb] at h1; exact h1.elim
  | some k => simp only [hb] at h1; exact ⟨k, asBool_VR r1 hb, Res.here h1 R1 rfl⟩
end
/-- the law's end: the def law gives True for every script -/
theorem law_end {l : PySem.W.OpenLaw} {k : Nat} {q : Program} {loose : List Str} {XP : (Str → Option Value) → Heap → Prop} {YP : World → Heap → Prop} {d : DefRec} {F : Fn}
    (hn : l.most = some 63) (hdf : d.params.defaults = []) (hr : Room k callerA) (hd : d.name = ("law" : Str))
    (T : ∀ (w : World) (mg : Str → Option Value) (h : Heap), YP w h → h.Ns mainGlobals mg →
      ∃ (K : Fr), K.In h ∧ ∀ base : Heap, K.In base → base.Ns mainGlobals mg → FnP l.prog w K mg base "law" ["script"] k F)
    (hF : ∀ ns : List Int, ns.length ≤ 63 → ∃ M', F [.d (.list (ns.map .int))] [] = .ok (.bool true) M') :
    PySem.W.WalkO q loose XP YP l.row.toRowW d [] (fun f vs => PySem.call f vs) := by
  refine L2.walk_ofE (n := 63) (k := k) (x := "script") hn (by decide) hdf hr (CX := fun outer H s E e s' => ∃ w, L2.CX l.prog w outer H s E e s') ?_ ?_
  · intro w mg fa h Y G hmg
    rw [hd] at hmg
    obtain ⟨K, KI, T⟩ := T w mg h Y G
    obtain ⟨f0, fd, _, hm, _, hb, oc, od, osl, lk⟩ := T h KI G
    rw [hmg] at hm
    cases hm
    refine ⟨K, fd, SPf K mg F, KI, fun s u => .of_eq (hb [u] rfl), fun H a ns hl hO hS => ?_, fun base KB GB => ?_⟩
    · obtain ⟨M', hF⟩ := hF ns hl
      have e0 : Rel K mg [] [] H := ⟨rfl, fun i j a h => by simp at h, fun i a o h => by simp at h⟩
      have dints : ∀ ns : List Int, DRs K H (ns.map V.int) (ns.map .int) := fun ns => by
        induction ns with
        | nil => exact .nil
        | cons n ns ih => exact .cons (.int n) ih
      refine ⟨[], [], [.d (.list (ns.map .int))], e0, .cons (.d (.rol ?_ (dints ns))) .nil, ?_⟩
      · rcases hS with (hS | hS) | hS
        · rcases hO a with q | ⟨o, xs, q⟩
          · rw [q] at hS; cases hS
          · rw [q] at hS; cases hS
        · exact .inl hS
        · exact .inr hS
      · rw [hF]
        intro φ' H' v R' r _ _
        exact r.bool_inv
    · obtain ⟨f1, fd1, hk, hm1, _, _, oc1, od1, osl1, lk1⟩ := T base KB GB
      rw [hmg] at hm1
      cases hm1
      rw [lk] at lk1
      cases lk1
      exact ⟨hk.len, fun A outer s H args us vs Q E r e0 b v sp => codeAny_mono (hk.run A outer s H args us vs Q E r e0 b v sp) fun r s' q => by
        cases r with
        | ok fl => cases fl <;> exact q
        | error e => exact ⟨w, q⟩⟩
  · intro H s e s' ⟨w, z⟩
    obtain ⟨_, _, _, _, _, _, _, _, _, _, _, _, z⟩ := z
    exact z
end Mi
end

section
set_option maxHeartbeats 4000000
/-! MiX: exceptions: what is made and raised, super().__init__ in an own class's __init__, try. -/
namespace Mi
open PySem PySem.Spec PyProof.Rows L2 NdefX

/-! ### super().__init__(e), the class three below BaseException -/
section
variable {prog : Program} {w : World} {A : Around} {E : Value → Shared → Prop} {h : Heap} {g : Array GenState} {d : Drawn} {t : Nat} {os : OsState}
/-- the bound ValueError.__init__ called -/
theorem bound_init {u e t0 C N : Addr} {nm q : Str} {bs bm : List Value} {sn : List Str} {sub : List Value} {ab : Bool} {col : Option Bool} {dd : Option Addr} {k0 k1 k2 k3 k5 : Option Value} {rest : List Value} {Q : Value → Shared → Prop}
    (hC : h.get? C = some (excClassObj nm q C N bs bm true sn sub ab col dd k0 k1 k2 k3 k5 "ValueError.__new__")) (he : h.get? e = some (PySem.HandSPX.excO C t0)) (hu : h.get? u = some (PySem.W.kxs_mw "ValueError.__init__" e)) (hz : rest.length ≤ sizeLine)
    (hq : ∀ h' t1, (∀ b o, b ≠ e → h.get? b = some o → h'.get? b = some o) → h'.get? e = some (PySem.HandSPX.excO C t1) → Q .none ⟨h', g, d, t, os⟩) :
    wpAny (model prog w) A (call (.ref u) rest) Q E ⟨h, g, d, t, os⟩ := by
  refine wpAny_call (codeAny_of_tree ?_)
  show wpAny _ A.in1 (callAny (.ref u) { pos := rest, kw := [] }) _ _ _
  unfold callAny
  refine wpAny_bind (wpAny_load hu ?_)
  have z1 : (Value.type "method-wrapper" == Value.type "method" || (Value.type "method-wrapper" == Value.type "builtin_function_or_method" || Value.type "method-wrapper" == Value.type "method-wrapper")) = true := by decide
  simp only [PySem.W.kxs_mw, show (Value.type "method-wrapper" == Value.type "method" || Value.type "method-wrapper" == Value.type "builtin_function_or_method" || Value.type "method-wrapper" == Value.type "method-wrapper") = true by decide, if_true]
  refine PySem.W.KFB.if_so (by decide) ?_
  refine wpAny_bind (PySem.W.check_bound_init PySem.F.excBase_ValueError.toExcCallFacts hC he rfl ?_)
  refine wpAny_bind (wpAny_pure (wpAny_pure ⟨plainId_quiet PySem.F.excBase_ValueError.init.plain _, codeAny_builtin PySem.F.excBase_ValueError.initEntry ?_⟩))
  exact PySem.W.exc_init_tree (cls := .ref C) (t0 := t0) (dv := none) (c2 := .none) (c3 := .none) (b4 := .bool false) he hz fun h' k1 k2 _ => hq h' _ k1 k2
end

/-- what the written part says of an own exception class whose __init__ (st) begins with super().__init__(e) -/
structure InitC (P : Program) (K : Fr) (qual : Str) (st : Stmt) (C f : Addr) (fd : FuncData) : Prop where
  T : OexC K C
  iC : PySem.W.findIn K (.ref C) "__init__" = some (some (.ref f))
  tI : PySem.W.typeIn K (.ref f) = some (.type "function")
  ex : ∃ (oc : Value) (od an : Option Addr) (osl : Array (Option Value)) (kV doc pm ct : Value) (c cc : Addr), fd = PySem.W.fnX "__init__" qual (defArgs st) (defBody st) (defScope st) [("__class__", cc)] .none kV doc pm an (.ref c) ct ∧
    K.lookup f = some ⟨oc, od, .func fd, osl⟩ ∧ PySem.W.codeIn K (.ref c) qual = true ∧
    (∃ (ccl : Value) (cdd : Option Addr) (vs : Array Value) (ccs : Array (Option Value)) (file : Str) (tf : Tok), K.lookup c = some ⟨ccl, cdd, .fields vs, ccs⟩ ∧ vs[2]? = some (.str file tf) ∧ ((P.main.file : Str) == file) = true) ∧
    ∃ (cl : Value) (cld : Option Addr) (csl : Array (Option Value)), K.lookup cc = some ⟨cl, cld, .cell (some (.ref C)), csl⟩
  op : PySem.W.nsIn K cStatics "thirdparty.any" = some none
  sm : PySem.W.ks_superIn K C C "__init__" = some (some (.builtin "ValueError.__init__"))
  sb : PySem.W.subIn K (.ref C) (.type "ValueError") = some true
  mr : PySem.W.mroIn K C (.ref C) = some true
  tp : (P.main.scope.names.lookup ("super" : Str)).isSome = false
abbrev nfI (qual : Str) (st : Stmt) (cc c : Addr) : NF := ⟨"__init__", qual, defArgs st, defBody st, defScope st, [("__class__", cc)], c⟩
section
variable {P : Program} {w : World} {K : Fr} {mg : Mg} {base : Heap} {qual : Str} {st : Stmt} {C f : Addr} {fd : FuncData} {N ps : List Str} {A : Around} {outer : List Env} {s0 : Shared} {H0 H : Hp} {E0' : XK} {a : Addr} {σ : L2.St} {s1 : Shared}
variable {e : Expr} {te : TE} {p0 p1 p2 p3 p4 : Pos} {body : List Stmt} {cc c : Addr} {E : Value → Shared → Prop}
theorem super_stmt {oc : Value} {od an : Option Addr} {osl : Array (Option Value)} {kV doc pm ct : Value} (IC : InitC P K qual st C f fd) (efd : fd = PySem.W.fnX "__init__" qual (defArgs st) (defBody st) (defScope st) [("__class__", cc)] .none kV doc pm an (.ref c) ct)
    (lk : K.lookup f = some ⟨oc, od, .func fd, osl⟩)
    (hcode : ∃ (ccl : Value) (cdd : Option Addr) (vs : Array Value) (ccs : Array (Option Value)) (file : Str) (tf : Tok), K.lookup c = some ⟨ccl, cdd, .fields vs, ccs⟩ ∧ vs[2]? = some (.str file tf) ∧ ((P.main.file : Str) == file) = true)
    (hcell : ∃ (cl : Value) (cld : Option Addr) (csl : Array (Option Value)), K.lookup cc = some ⟨cl, cld, .cell (some (.ref C)), csl⟩)
    (hsu : mg "super" = none) (hks : (defScope st).names.lookup ("super" : Str) = some .globalImplicit) (hkc : (defScope st).names.lookup ("__class__" : Str) = some .free) (hself : (defScope st).names.lookup ("self" : Str) = some .local) (hk : (defScope st).kind = .function)
    {ar : Arg} (har : ((defArgs st).posonlyargs ++ (defArgs st).args).head? = some ar) (harn : ar.arg = "self")
    (hN : N[0]? = some ("self" : Str)) (hσ : σ[0]? = some (some (.ref a))) (ha : H a = some (exo a C none))
    (he : PE (ncx L2.CX0 P w K mg base N (nfI qual st cc c) f A outer s0 H0 E0') e te) (hq : te σ H fun _ H' => H' = H)
    (I : Inv (ncx L2.CX0 P w K mg base N (nfI qual st cc c) f A outer s0 H0 E0') [] σ H s1)
    (hse : starEach [e] (envF (nfI qual st cc c) f s0.heap.objs.size) = (false, eval e (envF (nfI qual st cc c) f s0.heap.objs.size)) :: starEach [] (envF (nfI qual st cc c) f s0.heap.objs.size) := by rfl) (hint : interactive (envF (nfI qual st cc c) f s0.heap.objs.size) = false := by rfl)
    {pl : Sem Bool} (hmc : eval (.Call (.Attribute (.Call (.Name "super" p0) [] [] p1) "__init__" p2) [e] [] p3) (envF (nfI qual st cc c) f s0.heap.objs.size) = (do
      let ov ← attributeBase (.Call (.Name "super" p0) [] [] p1) "__init__" (envF (nfI qual st cc c) f s0.heap.objs.size) (eval (.Call (.Name "super" p0) [] [] p1) (envF (nfI qual st cc c) f s0.heap.objs.size))
      standAt p2.atName
      let (m, first) ← holding [ov] (getMethod ov "__init__" pl)
      callWith p3 m first (backTo p3 (starEach [e] (envF (nfI qual st cc c) f s0.heap.objs.size))) []) := by rfl) :
    _root_.PySem.wpAt (model P w) (A.deeper (envF (nfI qual st cc c) f s0.heap.objs.size)) (.func body (envF (nfI qual st cc c) f s0.heap.objs.size)) (exec (.Expr (.Call (.Attribute (.Call (.Name "super" p0) [] [] p1) "__init__" p2) [e] [] p3) p4) (envF (nfI qual st cc c) f s0.heap.objs.size))
      (fun fl s' => fl = .next ∧ Inv (ncx L2.CX0 P w K mg base N (nfI qual st cc c) f A outer s0 H0 E0') [] σ H s') (ncx L2.CX0 P w K mg base N (nfI qual st cc c) f A outer s0 H0 E0').xe s1 := by
  obtain ⟨ccl, cdd, vs, ccs, file, tf, hcode, hvs, hfile⟩ := hcode
  obtain ⟨cl, cld, csl, hcell⟩ := hcell
  have KI := I.kIn
  have T := IC.T
  obtain ⟨nm, q, Nn, bs, bm, sn, sub, ab, col, dd, k0, k1, k2, k3, k5, hC, hbm⟩ := T.cls
  have hCh := KI _ _ hC
  have hcl : PySem.W.clsIn K C = some { name := nm, bases := bs, mro := .ref C :: bm, ns := Nn, qualname := q, hasDict := true, slotNames := sn, subclasses := sub, abstract := ab, collection := col, hasDel := false } := by unfold PySem.W.clsIn; rw [hC] <;> rfl
  obtain ⟨t1, hx⟩ := exo_at I.hok ha
  subst efd
  refine ks_wpAt_Expr_any (ks_wpAt_MethodCall (pl := pl) ?_ hmc) hint ?_
  · refine ks_wpAt_super_base (ar := ar) hks hkc (by decide) rfl (KI _ _ lk) rfl har rfl (KI _ _ hcode) rfl hvs hfile IC.tp ?_
    have KX : K.In s1.heap := KI
    obtain ⟨mb, hb1, hb2⟩ := I.mod.blt
    refine PySem.W.ks_loadName_global hk hks (Calls.loadGlobal_builtin (I.mod.glob.keeps I.bk) hsu (hb1.keeps I.bk) ((hb2 _ (by decide)).trans (by decide +kernel)) ⟨rfl, ?_⟩)
    refine wpAny_loadName_free hk hkc rfl ⟨_, KX _ _ hcell, rfl⟩ ?_
    obtain ⟨m, hns, hl⟩ := I.loc
    obtain ⟨u, ru, hu⟩ := hl 0 "self" _ hN hσ (.inl hself)
    obtain rfl : u = Value.ref a := ru
    have hms : m "self" = some (.ref a) := by
      rcases hu with ⟨_, hu⟩ | ⟨hu, _⟩
      · exact hu
      · exact absurd (hself.symm.trans (show (defScope st).names.lookup ("self" : Str) = _ from hu.elim (fun z => z) fun z => absurd (hself.symm.trans z) (by intro z; cases z))) (by intro z; cases z)
    rw [harn]
    refine wpAny_loadName_local hk hself hns hms ?_
    refine ks_wpAny_isType_cls (KX _ _ hC) rfl ⟨rfl, ?_⟩
    obtain ⟨hp, g, d, t, os⟩ := s1
    refine ks_wpAny_call_super (KX _ _ hC) rfl hx rfl (fun c z => by cases z) (PySem.W.looks_mroIn KX IC.mr) (fun h' hso k => ?_)
    have I1 : Inv (ncx L2.CX0 P w K mg base N (nfI qual st cc c) f A outer s0 H0 E0') [] σ H ⟨h', g, d, t, os⟩ := I.kept (t' := t) fun b o z => k b o z
    have KX1 : K.In h' := KX.keeps fun b o z => k b o z
    have IA : PySem.W.InstAt h' a { cls := .ref C, dict := none, data := .fields #[.ref t1, .none, .none, .none, .bool false, .none] } C none := ⟨k _ _ hx, rfl, rfl, trivial⟩
    refine PySem.W.kxs_getMethod PySem.W.kxs_ValueError hso (PySem.W.looks_opaque KX1 IC.op) (l₀ := .ref C :: bm) (fun A Q E s k q => wpAny_bind ((PySem.W.looks_clsIn KX1 hcl) A _ E s k (wpAny_pure q))) rfl KX1
      (by have z := IC.sm; unfold PySem.W.ks_superIn at z; rw [hcl] at z; exact z) (IA.type.andThen (PySem.W.looks_subIn KX1 IC.sb)) (PySem.W.ks_ne KX1 IA hcl) (by decide) ?_
    have hu1 : (h'.push (PySem.W.kxs_mw "ValueError.__init__" a)).get? h'.objs.size = some (PySem.W.kxs_mw "ValueError.__init__" a) := Heap.get?_push_at rfl rfl
    have I2 : Inv (ncx L2.CX0 P w K mg base N (nfI qual st cc c) f A outer s0 H0 E0') [] σ H ⟨h'.push (PySem.W.kxs_mw "ValueError.__init__" a), g, d, t + 1, os⟩ := I1.kept (t' := t + 1) fun b o z => Heap.get?_push_of_some _ z
    have hfree : H h'.objs.size = none := I1.hok.fresh (Nat.le_refl _)
    have hloc := I1.lt
    have I3 : Inv (ncx L2.CX0 P w K mg base N (nfI qual st cc c) f A outer s0 H0 E0') [(h'.objs.size, PySem.W.kxs_mw "ValueError.__init__" a)] σ H ⟨h'.push (PySem.W.kxs_mw "ValueError.__init__" a), g, d, t + 1, os⟩ :=
      I2.pins_of fun p hp => by
        obtain rfl : p = _ := by simpa using hp
        exact ⟨hu1, hfree, Nat.ne_of_gt hloc, I1.nofs (Nat.le_refl _), fun v z => by cases z⟩
    show wpAny _ _ (callWith p3 (.ref h'.objs.size) [] (backTo p3 (starEach [e] _)) []) _ _ _
    rw [hse]
    refine PySem.W.kxs_callWith (i := "ValueError.__init__") (x := a) rfl (Calls.evalArgs_plain ?_)
    refine Calls.spliced_cons (thn (he.run _ _ σ H _ I3 hq) fun u s4 ⟨v, H4, I4, r4, q4⟩ => ?_)
    refine Calls.spliced_nil ?_
    subst q4
    obtain ⟨hu4, _⟩ := I4.pin (h'.objs.size, PySem.W.kxs_mw "ValueError.__init__" a) (List.mem_append_right _ List.mem_cons_self)
    refine ⟨hu4, ?_⟩
    obtain ⟨t4, hx4⟩ := exo_at I4.hok ha
    obtain ⟨hp4, g4, d4, tk4, os4⟩ := s4
    show wpAny _ _ (call (.ref h'.objs.size) [u]) _ _ _
    refine bound_init (I4.kIn _ _ hC) hx4 hu4 (by show 1 ≤ sizeLine; rw [sizeLine_eq]; omega) fun h5 t5 k5 e5 => ?_
    refine ⟨rfl, ?_⟩
    have J := (I4.pins_of (pins' := []) fun p hp => absurd hp (by simp)).write (t' := tk4) (x := a) (e := a) (o := exo a C none) (by rw [ha]; exact True.intro) (.inl rfl) k5 ⟨_, e5⟩ (exo_ok e5)
    have eu : upd H4 a (exo a C none) = H4 := by
      funext b
      by_cases hb : b = a
      · rw [hb, upd_same, ha]
      · rw [upd_ne hb]
    rw [eu] at J
    exact J
  · rfl
/-- such an __init__ keeps what its further statements promise -/
theorem init_ok {rest : List Stmt} {sp : Sp} {k : Nat} {t : TS} {ar : Arg} {pl : Env → Sem Bool} (IC : InitC P K qual st C f fd) (S : NScope N ps ["__class__"] (defScope st)) (hsu : mg "super" = none) (hks : (defScope st).names.lookup ("super" : Str) = some .globalImplicit)
    (hself : (defScope st).names.lookup ("self" : Str) = some .local) (har : ((defArgs st).posonlyargs ++ (defArgs st).args).head? = some ar) (harn : ar.arg = "self") (hN : N[0]? = some ("self" : Str))
    (hbd : defBody st = .Expr (.Call (.Attribute (.Call (.Name "super" p0) [] [] p1) "__init__" p2) [e] [] p3) p4 :: rest)
    (hse : ∀ env : Env, starEach [e] env = (false, eval e env) :: starEach [] env) (hint : ∀ (cc c : Addr) (L : Addr), interactive (envF (nfI qual st cc c) f L) = false)
    (hmc : ∀ env : Env, eval (.Call (.Attribute (.Call (.Name "super" p0) [] [] p1) "__init__" p2) [e] [] p3) env = (do
      let ov ← attributeBase (.Call (.Name "super" p0) [] [] p1) "__init__" env (eval (.Call (.Name "super" p0) [] [] p1) env)
      standAt p2.atName
      let (m, first) ← holding [ov] (getMethod ov "__init__" (pl env))
      callWith p3 m first (backTo p3 (starEach [e] env)) []))
    (len : ∀ vs H Q E, sp vs H Q E → vs.length = ps.length)
    (hb : ∀ (cc c : Addr) (A : Around) (outer : List Env) (s : Shared) (H : Hp) (E : XK), Room k (A.deeper (envF (nfI qual st cc c) f s.heap.objs.size)) →
      PE (ncx L2.CX0 P w K mg base N (nfI qual st cc c) f A outer s H E) e te ∧ PSs (ncx L2.CX0 P w K mg base N (nfI qual st cc c) f A outer s H E) rest t)
    (hq : ∀ vs H Q E, sp vs H Q E → ∃ a, (startF N vs [none])[0]? = some (some (.ref a)) ∧ H a = some (exo a C none) ∧ te (startF N vs [none]) H (fun _ H' => H' = H) ∧ t { nx := fun _ H' => Q .non H', rt := Q } (startF N vs [none]) H) :
    FnOk P w K mg base L2.CX0 (k + 1) f fd ps sp := by
  refine ⟨len, fun A outer s H args us vs Q E hr e0 hbi r hsp => ?_⟩
  obtain ⟨oc, od, an, osl, kV, doc, pm, ct, c, cc, efd, lk, hcd, hcode, hcell⟩ := IC.ex
  obtain ⟨a, h1, h2, h3, h4⟩ := hq _ _ _ _ hsp
  have hl := len _ _ _ _ hsp
  have KX : K.In s.heap := e0.mod.kin.keeps fun b o z => (e0.bs b o z).1
  have lim : s.heap.NoLimit := e0.mod.nolimit.keeps fun b o z => (e0.bs b o z).1
  have efd' := efd
  subst efd'
  have hcl : ∀ y d, ([("__class__", cc)] : List (Str × Addr)).lookup y = some d → y = "__class__" ∧ d = cc := fun y d z => by
    have z2 := PySem.mem_of_lookup z
    simp at z2
    exact z2
  have hcc : H cc = none ∧ s.heap.IsCell cc (some (.ref C)) := by
    obtain ⟨cl, cld, csl, q⟩ := hcell
    exact ⟨(e0.bs _ _ (e0.mod.kin _ _ q)).2, _, KX _ _ q, rfl⟩
  have CA : CellsAt (nfI qual st cc c).cl ["__class__"] [none] s.heap H :=
    ⟨rfl, fun y d z => by obtain ⟨_, rfl⟩ := hcl y d z; exact ⟨hcc.1, _, hcc.2⟩, fun x y d z1 z2 => (hcl x d z1).1.trans (hcl y d z2).1.symm, fun i y z => by
      cases i with
      | zero => simp at z; subst z; exact ⟨cc, by simp [List.lookup], fun v z => by simp at z⟩
      | succ i => simp at z⟩
  refine ks_codeAny_call_defAt hr.depth (KX _ _ lk) rfl lim (PySem.W.codeRec_of KX hcd) rfl hbi S.nocell (fun x hx => S.par _ (List.of_mem_zip (show (x.1, x.2) ∈ _ from hx)).1) (fun h₁ hns kp => ?_) S.co S.gen S.kind
  have I : Inv (ncx L2.CX0 P w K mg base N (nfI qual st cc c) f A outer s H E) [] (startF N vs [none]) H { s with heap := h₁, toks := s.toks + (ps.zip us).length } := inv_startN S hr.hd e0 hl r CA hns kp
  obtain ⟨b1, b2⟩ := hb cc c A outer s H E (hr.deeper _)
  have hbd' : execs (defBody st) (envF (nfI qual st cc c) f s.heap.objs.size) = execs (.Expr (.Call (.Attribute (.Call (.Name "super" p0) [] [] p1) "__init__" p2) [e] [] p3) p4 :: rest) (envF (nfI qual st cc c) f s.heap.objs.size) := by rw [hbd]
  show _root_.PySem.wpAt _ (A.deeper (envF (nfI qual st cc c) f s.heap.objs.size)) (.func (defBody st) (envF (nfI qual st cc c) f s.heap.objs.size)) (execs (defBody st) (envF (nfI qual st cc c) f s.heap.objs.size)) _ _ _
  rw [hbd']
  refine ks_wpAt_execs_cons (ks_wpAt_mono (super_stmt IC rfl lk hcode hcell hsu hks (S.frk _ List.mem_cons_self) hself S.kind har harn hN h1 h2 b1 h3 I (hse _) (hint _ _ _) (hmc _)) (fun fl s' hs => ?_) fun _ _ z => z)
  obtain ⟨rfl, J⟩ := hs
  refine wpAt_of_wpAny (wpAny_mono (b2.run [] s' _ H _ J h4) (fun fl s2 hs => ?_) fun _ _ z => z)
  cases fl with
  | ret u =>
    obtain ⟨v, σ', H', J2, rv, q⟩ := hs
    exact ⟨v, H', J2.os, J2.bare, J2.base, J2.hok, rv, q⟩
  | next =>
    obtain ⟨σ', H', J2, q⟩ := hs
    exact ⟨.non, H', J2.os, J2.bare, J2.base, J2.hok, rfl, q⟩
  | brk =>
    obtain ⟨_, _, _, q⟩ := hs
    exact False.elim q
  | cont =>
    obtain ⟨_, _, _, q⟩ := hs
    exact False.elim q
end
end Mi
end

section
set_option maxHeartbeats 4000000
/-! MiX2: exceptions made and raised, caught. -/
namespace Mi
open PySem PySem.Spec PyProof.Rows L2 NdefX

/-- what such an __init__ promises: the error's dict holds its arguments by these names -/
def spI (C : Addr) (fsn : List Str) (okV : List V → Prop) : Sp := fun vs H Q E => ∃ a xs, vs = .ref a :: xs ∧ xs.length = fsn.length ∧ okV xs ∧ H a = some (exo a C none) ∧
  ∀ H2 d, H d = none → d ≠ a → H2 a = some (exo a C (some d)) → H2 d = some (exd d ((fsn.zip xs).reverse)) → (∀ b, b ≠ a → b ≠ d → H2 b = H b) → Q .non H2
/-- how super().__init__(e) is evaluated: by the positions of a text -/
abbrev SupForm (p0 p1 p2 p3 : Pos) (e : Expr) : Prop := ∀ env : Env, eval (.Call (.Attribute (.Call (.Name "super" p0) [] [] p1) "__init__" p2) [e] [] p3) env = (do
      let ov ← attributeBase (.Call (.Name "super" p0) [] [] p1) "__init__" env (eval (.Call (.Name "super" p0) [] [] p1) env)
      standAt p2.atName
      let (m, first) ← holding [ov] (getMethod ov "__init__" (do return (← importBound (.Call (.Name "super" p0) [] [] p1) env).getD true))
      callWith p3 m first (backTo p3 (starEach [e] env)) [])
def okV1 (xs : List V) : Prop := ∃ i : Int, xs = [.int i] ∧ i.natAbs.log2 < 1920
section
variable {P : Program} {w : World} {K : Fr} {mg : Mg} {base : Heap} {qual : Str} {st : Stmt} {C f : Addr} {fd : FuncData} {k : Nat}
variable {p0 p1 p2 p3 p4 q0 q1 q2 q3 q4 q5 q6 : Pos} {n1 f1 : Str} {ar : Arg}
/-- def __init__(self, n): super().__init__(str(n)); self.f = n -/
theorem init1 (IC : InitC P K qual st C f fd) (S : NScope ["self", n1, "__class__"] ["self", n1] ["__class__"] (defScope st)) (hsu : mg "super" = none) (hks : (defScope st).names.lookup ("super" : Str) = some .globalImplicit)
    (hst : mg "str" = none) (hkst : (defScope st).names.lookup ("str" : Str) = some .globalImplicit) (har : ((defArgs st).posonlyargs ++ (defArgs st).args).head? = some ar) (harn : ar.arg = "self") (hno : PySem.W.findIn K (.ref C) f1 = some none)
    (hbd : defBody st = [.Expr (.Call (.Attribute (.Call (.Name "super" p0) [] [] p1) "__init__" p2) [.Call (.Name "str" q0) [.Name n1 q1] [] q2] [] p3) p4, .Assign [.Attribute (.Name "self" q3) f1 q4] (.Name n1 q5) q6]) (hmc : SupForm p0 p1 p2 p3 (.Call (.Name "str" q0) [.Name n1 q1] [] q2))
    (hd1 : (n1 == ("__debug__" : Str)) = false := by decide) (hd2 : (n1 == ("__classdict__" : Str)) = false := by decide) :
    FnOk P w K mg base L2.CX0 (k + 1) f fd ["self", n1] (spI C [f1] okV1) := by
  have s0 : (defScope st).names.lookup ("self" : Str) = some .local := S.par _ (by simp)
  have s1 : (defScope st).names.lookup n1 = some .local := S.par _ (by simp)
  refine init_ok (te := tCB (fun xs H Q => ∃ i, xs = [.int i] ∧ i.natAbs.log2 < 1920 ∧ Q (.str (toString i)) H) (tCons (tVar 1) tNil)) (t := tSeq (tOst K f1 (tVar 0) (tVar 1)) tNext) IC S hsu hks s0 har harn rfl hbd (fun _ => rfl) (fun cc c L => ?_) hmc (fun vs H Q E h => ?_) (fun cc c A outer s H E hr => ⟨?_, ?_⟩) (fun vs H Q E h => ?_)
  · show ((defScope st).kind == .module && _) = false
    rw [S.kind]; rfl
  · obtain ⟨a, xs, rfl, hl, _⟩ := h
    simpa using hl
  · exact pe_callTy call_str_int hkst hst (by decide +kernel) (pa_cons (pe_var (i := 1) rfl (.inl s1) hd1 hd2) pa_nil)
  · exact pss_cons (ps_ost (pe_var (i := 0) rfl (.inl s0)) (pe_var (i := 1) rfl (.inl s1) hd1 hd2)) pss_nil
  · obtain ⟨a, xs, rfl, hl, ⟨i, rfl, hi⟩, ha, hq⟩ := h
    refine ⟨a, rfl, ha, ⟨_, rfl, i, rfl, hi, rfl⟩, ?_⟩
    refine ⟨_, rfl, _, rfl, a, C, rfl, IC.T, hno, .inl ⟨ha, fun dx hn hne => ?_⟩⟩
    exact hq _ dx hn hne upd_same (by rw [upd_ne hne, upd_same]; rfl) fun b h1 h2 => by rw [upd_ne h1, upd_ne h2]
def okV2 (xs : List V) : Prop := ∃ (i : Int) (r : Str), xs = [.int i, .str r] ∧ i.natAbs.log2 < 1000 ∧ r.length ≤ 1000
/-- def __init__(self, n, m): super().__init__(str(n) + ': ' + m); self.f = n; self.g = m -/
theorem init2 {n2 f2 colon : Str} {j : Nat} {q7 q8 q9 r0 r1 r2 r3 p0' : Pos} (IC : InitC P K qual st C f fd) (S : NScope ["self", n1, n2, "__class__"] ["self", n1, n2] ["__class__"] (defScope st)) (hsu : mg "super" = none) (hks : (defScope st).names.lookup ("super" : Str) = some .globalImplicit)
    (hst : mg "str" = none) (hkst : (defScope st).names.lookup ("str" : Str) = some .globalImplicit) (har : ((defArgs st).posonlyargs ++ (defArgs st).args).head? = some ar) (harn : ar.arg = "self") (hno : PySem.W.findIn K (.ref C) f1 = some none) (hno2 : PySem.W.findIn K (.ref C) f2 = some none)
    (hlen : ∀ i : Int, i.natAbs.log2 < 1000 → (toString i : Str).length + colon.length ≤ 16000) 
    (hbd : defBody st = [.Expr (.Call (.Attribute (.Call (.Name "super" p0) [] [] p1) "__init__" p2) [.BinOp (.BinOp (.Call (.Name "str" q0) [.Name n1 q1] [] q2) .Add (.Constant (.str colon) j q7) q8) .Add (.Name n2 q9) r0] [] p3) p4,
      .Assign [.Attribute (.Name "self" q3) f1 q4] (.Name n1 q5) q6, .Assign [.Attribute (.Name "self" r1) f2 r2] (.Name n2 r3) p0'])
    (hmc : SupForm p0 p1 p2 p3 (.BinOp (.BinOp (.Call (.Name "str" q0) [.Name n1 q1] [] q2) .Add (.Constant (.str colon) j q7) q8) .Add (.Name n2 q9) r0))
    (hd1 : (n1 == ("__debug__" : Str)) = false := by decide) (hd2 : (n1 == ("__classdict__" : Str)) = false := by decide) (hd3 : (n2 == ("__debug__" : Str)) = false := by decide) (hd4 : (n2 == ("__classdict__" : Str)) = false := by decide) :
    FnOk P w K mg base L2.CX0 (k + 1) f fd ["self", n1, n2] (spI C [f1, f2] okV2) := by
  have s0 : (defScope st).names.lookup ("self" : Str) = some .local := S.par _ (by simp)
  have s1 : (defScope st).names.lookup n1 = some .local := S.par _ (by simp)
  have s2 : (defScope st).names.lookup n2 = some .local := S.par _ (by simp)
  refine init_ok (te := tOp (fun x y H Q => ∃ i j, x = .str i ∧ y = .str j ∧ i.length + j.length ≤ sizeLine ∧ Q (.str (i ++ j)) H) (tOp (fun x y H Q => ∃ i j, x = .str i ∧ y = .str j ∧ i.length + j.length ≤ sizeLine ∧ Q (.str (i ++ j)) H) (tCB (fun xs H Q => ∃ i, xs = [.int i] ∧ i.natAbs.log2 < 1920 ∧ Q (.str (toString i)) H) (tCons (tVar 1) tNil)) (tC (.str colon))) (tVar 2))
    (t := tSeq (tOst K f1 (tVar 0) (tVar 1)) (tSeq (tOst K f2 (tVar 0) (tVar 2)) tNext)) IC S hsu hks s0 har harn rfl hbd (fun _ => rfl) (fun cc c L => ?_) hmc (fun vs H Q E h => ?_) (fun cc c A outer s H E hr => ⟨?_, ?_⟩) (fun vs H Q E h => ?_)
  · show ((defScope st).kind == .module && _) = false
    rw [S.kind]; rfl
  · obtain ⟨a, xs, rfl, hl, _⟩ := h
    simpa using hl
  · exact pe_op op_add_str (pe_op op_add_str (pe_callTy call_str_int hkst hst (by decide +kernel) (pa_cons (pe_var (i := 1) rfl (.inl s1) hd1 hd2) pa_nil)) pe_str) (pe_var (i := 2) rfl (.inl s2) hd3 hd4)
  · exact pss_cons (ps_ost (pe_var (i := 0) rfl (.inl s0)) (pe_var (i := 1) rfl (.inl s1) hd1 hd2)) (pss_cons (ps_ost (pe_var (i := 0) rfl (.inl s0)) (pe_var (i := 2) rfl (.inl s2) hd3 hd4)) pss_nil)
  · obtain ⟨a, xs, rfl, hl, ⟨i, r, rfl, hi, hr⟩, ha, hq⟩ := h
    have hll := hlen i hi
    have hz := sizeLine_eq
    refine ⟨a, rfl, ha, ⟨_, rfl, i, rfl, by omega, _, _, rfl, rfl, by omega, _, rfl, _, _, rfl, rfl, ?_, rfl⟩, ?_⟩
    · rw [show ((toString i : Str) ++ colon).length = (toString i : Str).length + colon.length from Str.length_append _ _]; omega
    refine ⟨_, rfl, _, rfl, a, C, rfl, IC.T, hno, .inl ⟨ha, fun dx hn hne => ?_⟩⟩
    refine ⟨_, rfl, _, rfl, a, C, rfl, IC.T, hno2, .inr ⟨dx, _, upd_same, by rw [upd_ne hne, upd_same], by simp, ?_⟩⟩
    exact hq _ dx hn hne (by rw [upd_ne (Ne.symm hne), upd_same]) (by rw [upd_same]; rfl) fun b h1 h2 => by rw [upd_ne h2, upd_ne h1, upd_ne h2]
end

/-! ### making, raising -/
def ERx (K : Fr) (mg : Mg) : Phi → Hp → (Value × Option Addr) → Ex → Prop := fun _ H p x => ER K mg H p.1 p.2 x
def tX (K : Fr) (mg : Mg) (Wx : WX) (m : XM) : L2.St → Hp → XK → Prop := fun σ H Q => ∃ φ M L, Rel K mg φ M H ∧ LR K φ H σ L ∧ Res K mg (ERx K mg) φ H (m L M) (fun p H' => Q p.1 p.2 H') (fun c d H' => Wx c d σ H')
abbrev MK (X : Cx) (Wx : WX) (e : Expr) (m : XM) : Prop := PMk X e (tX X.K X.mg Wx m)
section
variable {X : Cx} {Wx : WX} {e : Expr} {es : List Expr} {m : XM} {mr : AM} {p pos : Pos} {x : Str} {C : Addr} {k : Nat}
theorem ms_raise (hc : X.calm = true) (tk : Takes X Wx) (h : MK X Wx e m) : MS X Wx (.Raise (some e) none pos) (sRaise m) := (ps_raise hc tk h).imp fun D σ H hs => by
  obtain ⟨φ, M, L, R, l, hs⟩ := hs
  refine ⟨φ, M, L, R, l, ?_⟩
  unfold sRaise at hs
  cases hm : m L M with
  | ok x M' =>
    rw [hm] at hs
    exact fun φ' H' q R' r e t => hs φ' H' σ q.1 q.2 R' (l.mono e t) r e t
  | ex x M' =>
    rw [hm] at hs
    exact fun φ' H' c d R' r e t => hs φ' H' σ c d R' (l.mono e t) r e t
  | bad => rw [hm] at hs; exact hs
/-- C(), C an own class without an own __init__ -/
theorem mk_own0 (q : PySem.W.excIn X.K C He.veBase "ValueError.__new__" = true) (hm : X.mg x = some (.ref C)) (kC : PySem.W.keepIn X.K (.ref C) = true) (r : Raises X (.ref C)) (hg : Gl X x) (hdb : (x == ("__debug__" : Str)) = false := by decide) :
    MK X Wx (.Call (.Name x p) [] [] pos) (xNew0 x) := by
  intro pins s σ H Q I h
  obtain ⟨φ, M, L, R, l, h⟩ := h
  have h2 : Q (.ref C) none H := h φ H (.ref C, none) R ⟨C, hm, rfl, .inl ⟨rfl, rfl⟩⟩ .refl .refl
  refine wpAny_Call_Name_kw (ld_glob I hg hm ?_ hdb)
  refine PySem.W.callWith_K0 I.kIn kC ?_
  show wpAny _ _ (call (.ref C) []) _ _ _
  obtain ⟨bm, N, nm, qn, bs, hdct, sn, sub, ab, col, dd, k0, k1, k2, k3, k5, mN, hC, hN, hni, T⟩ := exc_obj I.kIn q
  exact wpAny_call_exc_subT PySem.F.excBase_ValueError T hC hN hni (fun h' e hm => mk_of I hm r h2 (I.hok.gone hm.new)) (Nat.zero_le _)
/-- C(e, ..), C's own __init__ as above -/
theorem mk_init {fI : Addr} {fd : FuncData} {ps fsn : List Str} {okV : List V → Prop} {okA : List W → Option (List PyData)} (T : OexC X.K C) (iC : PySem.W.findIn X.K (.ref C) "__init__" = some (some (.ref fI))) (tI : PySem.W.typeIn X.K (.ref fI) = some (.type "function"))
    (F1 : FnOk X.prog X.w X.K X.mg X.base L2.CX0 k fI fd ps (spI C fsn okV)) (hr : Room (k + 1) X.A) (hb : Binds X.K fd ps []) (hg : Gl X x) (hm : X.mg x = some (.ref C)) (ha : MA X Wx (e :: es) mr)
    (hok : ∀ (φ : Phi) (H : Hp) (xs : List V) (ws : List W) (ds : List PyData), VRs X.K φ H xs ws → okA ws = some ds → okV xs ∧ xs.length = fsn.length ∧ ds.length = fsn.length ∧ xs.length ≤ 1000 ∧ DRs X.K H xs ds)
    (hdb : (x == ("__debug__" : Str)) = false := by decide) (he : starEach (e :: es) X.env = (false, eval e X.env) :: starEach es X.env := by rfl) (hpl : (backTo pos (starEach es X.env)).any (·.1) = false := by rfl) :
    MK X Wx (.Call (.Name x p) (e :: es) [] pos) (xNew x fsn okA mr) := by
  intro pins s σ H Q I h
  refine pmk_oex T iC tI F1 hr hb .nil pass0 hg hm ha hdb he hpl pins s σ H Q I ?_
  obtain ⟨φ, M, L, R, l, h⟩ := h
  refine ⟨φ, M, L, R, l, ?_⟩
  unfold xNew at h
  refine (Res.seq h).imp (fun vs H1 ⟨φ1, M1, ws, R1, r1, e1, t1, h1⟩ => ?_) fun _ _ _ z => z
  cases hA : okA ws with
  | none => simp only [hA] at h1; exact h1.elim
  | some ds =>
    simp only [hA] at h1
    obtain ⟨hv, hl, hl2, hz, hD⟩ := hok _ _ _ _ _ r1 hA
    refine ⟨hz, fun a ha => ⟨a, vs, by rw [List.append_nil], hl, hv, upd_same, fun H2 d hd hda e2 e3 keep => ?_⟩⟩
    have hd1 : H1 d = none := by rw [upd_ne hda] at hd; exact hd
    refine ⟨rfl, d, _, e2, e3, hd1, ?_⟩
    have kk : ∀ b, b ≠ a → b ≠ d → upd (del H2 a) d (.xd ((fsn.zip vs).reverse)) b = H1 b := fun b z1 z2 => by
      rw [upd_ne z2, del_ne z1, keep b z1 z2, upd_ne z1]
    have tk : TK X.K H1 (upd (del H2 a) d (.xd ((fsn.zip vs).reverse))) :=
      ⟨fun b xs z => by rw [kk b (ne_of_none z ha) (ne_of_none z hd1)]; exact z, fun b o u z => by rw [kk b (ne_of_none z ha) (ne_of_none z hd1)]; exact z⟩
    refine h1 φ1 _ (.ref C, some d) (R1.mono tk fun i b z => ?_) ?_ .refl tk
    · obtain ⟨u, q⟩ := R1.tracked z
      exact kk b (ne_of_none q ha) (ne_of_none q hd1)
    · refine ⟨C, hm, rfl, .inr ⟨d, _, rfl, upd_same, ?_, ?_⟩⟩
      · rw [List.map_reverse, List.map_reverse]
        congr 1
        rw [List.map_fst_zip (by omega), List.map_fst_zip (by omega)]
      · have rv : ∀ {vs : List V} {ds : List PyData} {H' : Hp}, DRs X.K H' vs ds → DRs X.K H' vs.reverse ds.reverse := by
          have ap : ∀ {vs us : List V} {ds es : List PyData} {H' : Hp}, DRs X.K H' vs ds → DRs X.K H' us es → DRs X.K H' (vs ++ us) (ds ++ es) := by
            intro vs
            induction vs with
            | nil => intro us ds es H' a b; cases a; exact b
            | cons v vs ih => intro us ds es H' a b; cases a with | cons r s => exact .cons r (ih s b)
          intro vs
          induction vs with
          | nil => intro ds H' a; cases a; exact .nil
          | cons v vs ih => intro ds H' a; cases a with | cons r s => rw [List.reverse_cons, List.reverse_cons]; exact ap (ih s) (.cons r .nil)
        rw [List.map_reverse, List.map_reverse, List.map_snd_zip (by omega), List.map_snd_zip (by omega)]
        exact rv (hD.mono tk)
theorem hok1 {K : Fr} (φ : Phi) (H : Hp) (xs : List V) (ws : List W) (ds : List PyData) (r : VRs K φ H xs ws) (h : okA1 ws = some ds) : okV1 xs ∧ xs.length = 1 ∧ ds.length = 1 ∧ xs.length ≤ 1000 ∧ DRs K H xs ds := by
  unfold okA1 at h
  split at h
  · rename_i i
    split at h
    · rename_i hi
      cases h
      cases r with
      | cons r s =>
        cases s
        cases r with
        | d r => cases r; exact ⟨⟨i, rfl, hi⟩, rfl, rfl, by simp, .cons (.int i) .nil⟩
    · cases h
  · cases h
theorem hok2 {K : Fr} (φ : Phi) (H : Hp) (xs : List V) (ws : List W) (ds : List PyData) (r : VRs K φ H xs ws) (h : okA2 ws = some ds) : okV2 xs ∧ xs.length = 2 ∧ ds.length = 2 ∧ xs.length ≤ 1000 ∧ DRs K H xs ds := by
  unfold okA2 at h
  split at h
  · rename_i i t
    split at h
    · rename_i hi
      cases h
      cases r with
      | cons r s =>
        cases s with
        | cons r2 s =>
          cases s
          cases r with
          | d r => cases r; cases r2 with
            | d r2 => cases r2 with
              | str _ ok => exact ⟨⟨i, t, rfl, hi.1, hi.2⟩, rfl, rfl, by simp, .cons (.int i) (.cons (.str t ok) .nil)⟩
    · cases h
  · cases h
end

/-! ### try .. except C as n: a value returned -/
section
variable {X : Cx} {Wx : WX} {x n : Str} {c : Value} {i : Nat} {body suite : List Stmt} {b₀ : Stmt} {np pos pos' : Pos} {m : SM} {ts : Addr → Value → Option Addr → TS} {cm : Str → Option Bool} {f : Ex → Option PyData}
theorem ms_tryR (hs : X.stack = X.env :: X.outer) (hf : X.env.frame = some X.env.locals) (hN : X.N.Nodup) (hi : X.N[i]? = some n) (hln : X.env.kindOf n = some .local) (hc : Names X x c) (tk : Takes X Wx)
    (hb : ∀ (W : WX) (pn : List (Addr × Obj)) (xe : Value → Shared → Prop), Takes (X.tr pn xe) W → PassesOwn (model X.prog X.w) X.A X.env xe → MSs (X.tr pn xe) W body m)
    (hsu : ∀ (a : Addr) (oe : Obj) (cls : Value) (d : Option Addr) (pn : List (Addr × Obj)), Zc cls d oe → (∃ vs, oe.data = .fields vs) → PSs (X.suite a ((a, oe) :: pn)) (b₀ :: suite) (ts a cls d))
    (hcm : ∀ (y : Str) (b : Bool) (C : Addr), cm y = some b → X.mg y = some (.ref C) → PySem.W.exmOne X.K (.ref C) c = some b)
    (hts : ∀ (a : Addr) (cls : Value) (d : Option Addr) (D : Ends) (σ : L2.St) (H : Hp) (y : Ex) (φ : Phi) (M : Hh) (v : PyData), Rel X.K X.mg φ M H → ER X.K X.mg H cls d y → H a = none → σ[i]? = some (some (.ref a)) → cm y.cls = some true → f y = some v →
      (∀ (ψ : Phi) (H' : Hp) (u : V), Rel X.K X.mg ψ M H' → Ext φ ψ → TK X.K H H' → DR X.K H' u v → D.rt u H') → ts a cls d D σ H) :
    MS X Wx (.Try body [.ExceptHandler (some (.Name x np)) (some n) (b₀ :: suite) pos'] [] [] pos) (sTryR i cm m f) :=
  (ps_try_as (i := i) (Wout := Wx) (tb := fun W => tS X.K X.mg W m) hs hf hN hi hln hc tk hb hsu).imp fun D σ H h => by
  obtain ⟨φ, M, L, R, l, h⟩ := h
  refine ⟨φ, M, L, R, l, ?_⟩
  unfold sTryR at h
  cases hm : m L M with
  | nx _ _ => rw [hm] at h; exact h
  | rt _ _ => rw [hm] at h; exact h
  | bk _ _ => rw [hm] at h; exact h
  | ct _ _ => rw [hm] at h; exact h
  | bad => rw [hm] at h; exact h
  | ex y L1 M1 =>
    rw [hm] at h
    dsimp only at h
    intro φ' H' σ' cls d R' l' r e t
    split at h
    · exact h.elim
    rename_i hl
    have r0 := r
    obtain ⟨C, hC, rfl, _⟩ := r0
    cases hk : cm y.cls with
    | none => simp only [hk] at h; exact h.elim
    | some b =>
      refine ⟨b, hcm _ _ _ hk hC, fun hb a ha => ?_, fun hb => ?_⟩
      · subst hb
        simp only [hk] at h
        cases hv : f y with
        | none => simp only [hv] at h; exact h.elim
        | some v =>
          simp only [hv] at h
          refine hts a _ d _ _ H' y φ' M1 v R' r ha ?_ hk hv fun ψ H2 u R2 e2 t2 r2 => h ψ H2 u R2 (.d r2) (e.trans e2) (t.trans t2)
          rw [List.getElem?_set_self]
          rw [l'.1]; omega
      · subst hb
        simp only [hk] at h
        exact h φ' H' σ' _ d R' l' r e t
end
/-! ### isinstance of the caught exception -/
section
/-- isinstance(e, c), e what the suite holds: its class cls, its dict d -/
def rIsX (K : Fr) (cls : Value) (d : Option Addr) (a : Addr) : List V → Hp → VK → Prop := fun xs H Q => ∃ (D : Addr) (c : V) (cv : Value) (b : Bool), cls = .ref D ∧ xs = [.ref a, c] ∧ (∀ u, RelV c u → u = cv) ∧ ExcC K D ∧ PySem.W.kitOne K (.ref D) cv = some b ∧
  (d = none ∨ ∃ dd fs, d = some dd ∧ H dd = some (.xd fs)) ∧ Q (.bl b) H
theorem call_isX {X : Cx} {a : Addr} {oe : Obj} {cls : Value} {d : Option Addr} {pn : List (Addr × Obj)} (hz : Zc cls d oe) (hf : ∃ vs, oe.data = .fields vs) : CallR (X.suite a ((a, oe) :: pn)) (.builtin "isinstance") (rIsX X.K cls d a) := by
  intro pins s σ H xs us Q I r h
  obtain ⟨D, c, cv, b, rfl, rfl, hcv, C, e, hd, q⟩ := h
  cases r with
  | cons rx rr =>
    cases rr with
    | cons rt rr =>
      cases rr
      cases rx
      have ec := hcv _ rt
      subst ec
      obtain ⟨hget, _⟩ := I.pin (a, oe) (List.mem_append.mpr (.inl List.mem_cons_self))
      obtain ⟨vs, hv⟩ := hf
      have J : ∃ od, PySem.W.InstAt s.heap a oe D od := by
        rcases hd with hd | ⟨dd, fs, hd, hH⟩
        · exact ⟨none, hget, hz.1, by unfold PySem.W.notCls; rw [hv] <;> rfl, by rw [hz.2, hd]; trivial⟩
        · have hx : ObjOk X.prog X.w H s.heap dd (.xd fs) := I.hok dd _ hH
          obtain ⟨mA, hns, hr⟩ := hx
          obtain ⟨od, ho, hl⟩ := lookIn_ns hns
          exact ⟨some od, hget, hz.1, by unfold PySem.W.notCls; rw [hv] <;> rfl, by rw [hz.2, hd]; exact ho⟩
      obtain ⟨od, J⟩ := J
      obtain ⟨cd, hcd, _⟩ := PySem.W.any_some C.hd
      exact PySem.W.kia_one (PySem.W.kitx_exc (by rw [hcd]; rfl) C.hg C.hk C.hs C.ha C.hn C.ht C.hm) I.kIn J e (fun z => nomatch z) fun tk => ⟨.bl b, H, I.kept (t' := tk) fun _ _ z => z, rfl, q⟩
end

/-! ### own exception classes by name -/
def clsB : Stmt → List Stmt
  | .ClassDef _ _ _ b _ _ _ _ _ _ _ => b
  | _ => []
/-- x is an own exception class, its own __init__ stores its arguments under fsn -/
def XcT (P : Program) (w : World) (K : Fr) (mg : Mg) (base : Heap) (x : Str) (k : Nat) (fsn : List Str) (okV : List V → Prop) : Prop :=
  ∃ (C fI : Addr) (fd : FuncData) (ps : List Str), mg x = some (.ref C) ∧ OexC K C ∧ PySem.W.findIn K (.ref C) "__init__" = some (some (.ref fI)) ∧ PySem.W.typeIn K (.ref fI) = some (.type "function") ∧ FnOk P w K mg base L2.CX0 k fI fd ps (spI C fsn okV) ∧ Binds K fd ps []
/-- x is an own exception class without an own __init__ -/
def X0T (K : Fr) (mg : Mg) (x : Str) : Prop :=
  ∃ C, mg x = some (.ref C) ∧ PySem.W.excIn K C He.veBase "ValueError.__new__" = true ∧ PySem.W.keepIn K (.ref C) = true ∧ PySem.W.subIn K (.ref C) (.type "BaseException") = some true ∧ PySem.W.typeIn K (.ref C) = some (.type "type")
section
variable {X : Cx} {Wx : WX} {e : Expr} {es : List Expr} {m : XM} {mr : AM} {p pos : Pos} {x : Str} {k j : Nat}
theorem mk_by0 (T : X0T X.K X.mg x) (hg : Gl X x) (hdb : (x == ("__debug__" : Str)) = false := by decide) : MK X Wx (.Call (.Name x p) [] [] pos) (xNew0 x) := by
  obtain ⟨C, h1, h2, h3, h4, h5⟩ := T
  exact mk_own0 h2 h1 h3 (raises_own h4 h5) hg hdb
theorem mk_by {fsn : List Str} {okV : List V → Prop} {okA : List W → Option (List PyData)} (T : XcT X.prog X.w X.K X.mg X.base x j fsn okV) (hr : Room k X.A) (hg : Gl X x) (ha : MA X Wx (e :: es) mr)
    (hok : ∀ (φ : Phi) (H : Hp) (xs : List V) (ws : List W) (ds : List PyData), VRs X.K φ H xs ws → okA ws = some ds → okV xs ∧ xs.length = fsn.length ∧ ds.length = fsn.length ∧ xs.length ≤ 1000 ∧ DRs X.K H xs ds) (hj : j + 1 ≤ k := by omega)
    (hdb : (x == ("__debug__" : Str)) = false := by decide) (he : starEach (e :: es) X.env = (false, eval e X.env) :: starEach es X.env := by rfl) (hpl : (backTo pos (starEach es X.env)).any (·.1) = false := by rfl) :
    MK X Wx (.Call (.Name x p) (e :: es) [] pos) (xNew x fsn okA mr) := by
  obtain ⟨C, fI, fd, ps, h1, h2, h3, h4, h5, h6⟩ := T
  exact mk_init h2 h3 h4 h5 (hr.mono hj) h6 hg h1 ha hok hdb he hpl
/-- one field -/
theorem mk_by1 {f : Str} (T : XcT X.prog X.w X.K X.mg X.base x j [f] okV1) (hr : Room k X.A) (hg : Gl X x) (ha : MA X Wx (e :: es) mr) (hj : j + 1 ≤ k := by omega)
    (hdb : (x == ("__debug__" : Str)) = false := by decide) (he : starEach (e :: es) X.env = (false, eval e X.env) :: starEach es X.env := by rfl) (hpl : (backTo pos (starEach es X.env)).any (·.1) = false := by rfl) :
    MK X Wx (.Call (.Name x p) (e :: es) [] pos) (xNew x [f] okA1 mr) := mk_by T hr hg ha hok1 hj hdb he hpl
/-- two fields -/
theorem mk_by2 {f g : Str} (T : XcT X.prog X.w X.K X.mg X.base x j [f, g] okV2) (hr : Room k X.A) (hg : Gl X x) (ha : MA X Wx (e :: es) mr) (hj : j + 1 ≤ k := by omega)
    (hdb : (x == ("__debug__" : Str)) = false := by decide) (he : starEach (e :: es) X.env = (false, eval e X.env) :: starEach es X.env := by rfl) (hpl : (backTo pos (starEach es X.env)).any (·.1) = false := by rfl) :
    MK X Wx (.Call (.Name x p) (e :: es) [] pos) (xNew x [f, g] okA2 mr) := mk_by T hr hg ha hok2 hj hdb he hpl
abbrev BindsI (qual : Str) (st : Stmt) (ps : List Str) : Prop := ∀ (cl : List (Str × Addr)) (kV doc pm : Value) (an : Option Addr) (cdv ct : Value) (us : List Value), us.length = ps.length → bindArgs (PySem.W.fnX "__init__" qual (defArgs st) (defBody st) (defScope st) cl .none kV doc pm an cdv ct) ⟨us, []⟩ = pure (ps.zip us)
theorem XcT.of {P : Program} {w : World} {K : Fr} {mg : Mg} {base : Heap} {qual : Str} {st : Stmt} {C f : Addr} {fd : FuncData} {fsn ps : List Str} {okV : List V → Prop} (IC : InitC P K qual st C f fd) (hm : mg x = some (.ref C)) (hb : BindsI qual st ps) (F : FnOk P w K mg base L2.CX0 k f fd ps (spI C fsn okV)) : XcT P w K mg base x k fsn okV := by
  refine ⟨C, f, fd, ps, hm, IC.T, IC.iC, IC.tI, F, .all fun us hl => ?_⟩
  obtain ⟨oc, od, an, osl, kV, doc, pm, ct, c, cc, rfl, _⟩ := IC.ex
  exact hb _ _ _ _ _ _ _ us hl
end
end Mi
end

section
set_option maxHeartbeats 4000000
/-! MiP3: dicts made, sorted, least, greatest, sums. -/
namespace Mi
open PySem PySem.Spec PyProof.Rows L2
section
variable {X : Cx} {K : Fr} {mg : Mg} {φ : Phi} {M : Hh} {H : Hp} {Q : VK} {E : XK} {k : Nat}
theorem Res.ofK {kvs : List (Key × W)} {ks : List (Key × V)} (h : Res K mg (VR K) φ H (R.of (some (.ref M.length, M ++ [.dk kvs]))) Q E) (R : Rel K mg φ M H) (hk : ks.map (·.1) = kvs.map (·.1)) (hv : VRs K φ H (ks.map (·.2)) (kvs.map (·.2))) (p : Addr) (hp : H p = none) : Q (.ref p) (upd H p (.dK ks)) :=
  h (φ ++ [p]) _ _ (R.new hp ⟨ks, upd_same, hk, hv.mono .app (.laid hp)⟩) (.ref (by rw [← R.len]; simp)) .app (.laid hp)
theorem pairs_rel : ∀ {vs : List V} {ws : List W} {kvs : List (Key × W)}, VRs K φ H vs ws → ws.mapM pairW = some kvs → ∃ (ps : List Addr) (ks : List (Key × V)), vs = ps.map V.ref ∧ Paired (fun p kv => SqT K H p [kV kv.1, kv.2]) ps ks ∧ ks.map (·.1) = kvs.map (·.1) ∧ VRs K φ H (ks.map (·.2)) (kvs.map (·.2))
  | _, _, _, .nil, h => by cases h; exact ⟨[], [], rfl, .nil, rfl, .nil⟩
  | _, _, _, .cons r s, h => by
    obtain ⟨y, ys, h1, h2, rfl⟩ := mapM_cons_some h
    obtain ⟨ps, ks, rfl, hp, hk, hv⟩ := pairs_rel s h2
    unfold pairW at h1
    split at h1
    · rename_i kw vw hi
      obtain ⟨a, us, rfl, ha, rus⟩ := r.items hi
      cases rus with | cons r1 rn => cases rn with | cons r2 rn => cases rn with | nil =>
      cases hkw : keyW kw with
      | none => rw [hkw] at h1; cases h1
      | some key =>
        rw [hkw] at h1; cases h1
        obtain rfl := keyW_VR r1 hkw
        exact ⟨a :: ps, (key, _) :: ks, rfl, .cons ha.sq hp, by simp [hk], .cons r2 hv⟩
    · cases h1
theorem merge_rel : ∀ {more : List (Key × V)} {mw : List (Key × W)} {ks : List (Key × V)} {kvs : List (Key × W)}, more.map (·.1) = mw.map (·.1) → VRs K φ H (more.map (·.2)) (mw.map (·.2)) → ks.map (·.1) = kvs.map (·.1) → VRs K φ H (ks.map (·.2)) (kvs.map (·.2)) →
    (mergeK ks more).map (·.1) = (merge kvs mw).map (·.1) ∧ VRs K φ H ((mergeK ks more).map (·.2)) ((merge kvs mw).map (·.2))
  | [], [], ks, kvs, _, _, hk, hv => ⟨hk, hv⟩
  | (k1, v) :: more, (k2, w) :: mw, ks, kvs, h1, h2, hk, hv => by
    simp only [List.map_cons, List.cons.injEq] at h1 h2
    obtain ⟨rfl, h1⟩ := h1
    cases h2 with
    | cons r h2 =>
      obtain ⟨a, b⟩ := put_rel (key := k1) r hk hv
      exact merge_rel (ks := putK ks k1 v) (kvs := put kvs k1 w) h1 h2 a b
  | [], _ :: _, _, _, h, _, _, _ => by simp at h
  | _ :: _, [], _, _, h, _, _, _ => by simp at h
theorem cr_dict (hc : X.calm = true) : CallR X (.type "dict") (relN X.K X.mg bDict) := by
  intro pins s σ H xs us Q I r ⟨φ, M, ws, R, rs, h⟩
  unfold bDict at h
  split at h
  · cases rs with | cons r1 rn => cases rn with | nil =>
    split at h
    · rename_i ws hm
      obtain ⟨q, vs, rfl, eq, hq, rvs⟩ := r1.lst R hm
      cases hp : ws.mapM pairW with
      | none => rw [hp] at h; exact h.elim
      | some kvs =>
        rw [hp] at h
        obtain ⟨ps, ks, rfl, hps, hk, hv⟩ := pairs_rel rvs hp
        obtain ⟨m1, m2⟩ := merge_rel (ks := []) (kvs := []) hk hv rfl .nil
        exact call_dictP hc pins s σ H _ us Q I r ⟨q, ps, ks, rfl, .of hq, hps, fun p hp => h.ofK R m1 m2 p hp⟩
    · rename_i kvs hm
      obtain ⟨q, rfl, eq⟩ := r1.ref_inv
      obtain ⟨ks, ha, hk, hv⟩ := R.ob' hm eq
      exact call_dictD pins s σ H _ us Q I r ⟨q, ks, rfl, .inl ha, fun p hp => h.ofK R hk hv p hp⟩
    · exact h.elim
  · exact h.elim
theorem ints_VR : ∀ {vs : List V} {ws : List W} {ns : List Int}, VRs K φ H vs ws → ws.mapM intW = some ns → vs = ns.map V.int
  | _, _, _, .nil, h => by cases h; rfl
  | _, _, _, .cons r s, h => by
    obtain ⟨y, ys, h1, h2, rfl⟩ := mapM_cons_some h
    rw [ints_VR s h2]
    unfold intW at h1
    split at h1
    · cases h1; rw [r.int_inv]; rfl
    · cases h1
theorem ints_rel : ∀ ns : List Int, VRs K φ H (ns.map V.int) (ns.map W.int)
  | [] => .nil
  | n :: ns => .cons (.d (.int n)) (ints_rel ns)
theorem sortI_eq {ns ys : List Int} (hp : ys.Perm ns) (hs : ys.Pairwise (· ≤ ·)) : ys = sortI ns := by
  refine List.Perm.eq_of_pairwise (le := (· ≤ ·)) (fun a b _ _ h1 h2 => Int.le_antisymm h1 h2) hs ?_ (hp.trans (List.mergeSort_perm ns _).symm)
  have := List.pairwise_mergeSort (le := fun a b : Int => decide (a ≤ b)) (fun a b c h1 h2 => by simp at h1 h2 ⊢; omega) (fun a b => by simp; omega) ns
  unfold sortI
  simpa using this
theorem keys_int : ∀ {ks : List Key} {ns : List Int}, ks.mapM intK = some ns → ks = ns.map Sum.inl
  | [], _, h => by cases h; rfl
  | k :: ks, _, h => by
    obtain ⟨y, ys, h1, h2, rfl⟩ := mapM_cons_some h
    rw [keys_int h2]
    cases k with
    | inl i => cases h1; rfl
    | inr x => cases h1
theorem cr_sort (hc : X.calm = true) : CallR X (.builtin "sorted") (relN X.K X.mg bSorted) := by
  intro pins s σ H xs us Q I r ⟨φ, M, ws, R, rs, h⟩
  unfold bSorted at h
  split at h
  · cases rs with | cons r1 rn => cases rn with | nil =>
    split at h
    · rename_i ws hm
      obtain ⟨q, vs, rfl, eq, hq, rvs⟩ := r1.lst R hm
      cases hp : ws.mapM intW with
      | none => rw [hp] at h; exact h.elim
      | some ns =>
        rw [hp] at h
        obtain rfl := ints_VR rvs hp
        refine cr_sortedI pins s σ H _ us Q I r ⟨q, ns, rfl, .of hq, fun ys p h1 h2 hp => ?_⟩
        rw [sortI_eq h1 h2]
        exact h.ofL R (ints_rel _) p hp
    · rename_i kvs hm
      obtain ⟨q, rfl, eq⟩ := r1.ref_inv
      obtain ⟨ks, ha, hk, hv⟩ := R.ob' hm eq
      split at h
      · rename_i hz
        cases hp : (kvs.map (·.1)).mapM intK with
        | none => rw [hp] at h; exact h.elim
        | some ns =>
          rw [hp] at h
          have e := keys_int hp
          refine call_sortedDI hc pins s σ H _ us Q I r ⟨q, ks, ns, rfl, .inl ha, hk.trans e, ?_, fun ys p h1 h2 hp => ?_⟩
          · have := congrArg List.length e; simp at this; omega
          · rw [sortI_eq h1 h2]
            exact h.ofL R (ints_rel _) p hp
      · exact h.elim
    · exact h.elim
  · exact h.elim
theorem foldl_min_le : ∀ (xs : List Int) (x : Int), xs.foldl min x ≤ x ∧ (∀ y ∈ xs, xs.foldl min x ≤ y) ∧ (xs.foldl min x = x ∨ xs.foldl min x ∈ xs)
  | [], x => ⟨Int.le_refl _, by simp, .inl rfl⟩
  | y :: ys, x => by
    obtain ⟨a, b, c⟩ := foldl_min_le ys (min x y)
    rw [List.foldl_cons]
    refine ⟨by omega, fun z hz => ?_, ?_⟩
    · rcases List.mem_cons.mp hz with rfl | hz
      · omega
      · exact b z hz
    · rcases c with c | c
      · rw [c]
        by_cases q : x ≤ y
        · exact .inl (by omega)
        · exact .inr (List.mem_cons.mpr (.inl (by omega)))
      · exact .inr (List.mem_cons_of_mem _ c)
theorem foldl_max_le : ∀ (xs : List Int) (x : Int), x ≤ xs.foldl max x ∧ (∀ y ∈ xs, y ≤ xs.foldl max x) ∧ (xs.foldl max x = x ∨ xs.foldl max x ∈ xs)
  | [], x => ⟨Int.le_refl _, by simp, .inl rfl⟩
  | y :: ys, x => by
    obtain ⟨a, b, c⟩ := foldl_max_le ys (max x y)
    rw [List.foldl_cons]
    refine ⟨by omega, fun z hz => ?_, ?_⟩
    · rcases List.mem_cons.mp hz with rfl | hz
      · omega
      · exact b z hz
    · rcases c with c | c
      · rw [c]
        by_cases q : y ≤ x
        · exact .inl (by omega)
        · exact .inr (List.mem_cons.mpr (.inl (by omega)))
      · exact .inr (List.mem_cons_of_mem _ c)
theorem cr_least (hc : X.calm = true) : CallR X (.builtin "min") (relN X.K X.mg bMin) := by
  intro pins s σ H xs us Q I r ⟨φ, M, ws, R, rs, h⟩
  unfold bMin at h
  split at h
  · cases rs with | cons r1 rn => cases rn with | cons r2 rn => cases rn with | nil =>
    obtain rfl := r1.int_inv; obtain rfl := r2.int_inv
    rename_i i j
    refine call_min2 hc pins s σ H _ us Q I r ⟨i, j, rfl, ?_⟩
    have e : (if j < i then j else i) = min i j := by split <;> omega
    rw [e]; exact h.ofI R
  · cases rs with | cons r1 rn => cases rn with | nil =>
    split at h
    · rename_i ws hm
      obtain ⟨q, vs, rfl, eq, hq, rvs⟩ := r1.lst R hm
      cases hp : ws.mapM intW with
      | none => rw [hp] at h; exact h.elim
      | some ns =>
        rw [hp] at h
        obtain rfl := ints_VR rvs hp
        cases ns with
        | nil => exact h.elim
        | cons x xs =>
          refine cr_min hc pins s σ H _ us Q I r ⟨q, x :: xs, rfl, .of hq, by simp, fun m hm hle => ?_⟩
          obtain ⟨a, b, c⟩ := foldl_min_le xs x
          have e : m = xs.foldl min x := by
            refine Int.le_antisymm ?_ ?_
            · rcases c with c | c
              · rw [c]; exact hle x List.mem_cons_self
              · exact hle _ (List.mem_cons_of_mem _ c)
            · rcases List.mem_cons.mp hm with rfl | hm
              · exact a
              · exact b m hm
          rw [e]; exact h.ofI R
    · exact h.elim
  · exact h.elim
theorem cr_great (hc : X.calm = true) : CallR X (.builtin "max") (relN X.K X.mg bMax) := by
  intro pins s σ H xs us Q I r ⟨φ, M, ws, R, rs, h⟩
  unfold bMax at h
  split at h
  · cases rs with | cons r1 rn => cases rn with | cons r2 rn => cases rn with | nil =>
    obtain rfl := r1.int_inv; obtain rfl := r2.int_inv
    rename_i i j
    refine call_max2 hc pins s σ H _ us Q I r ⟨i, j, rfl, ?_⟩
    have e : (if j > i then j else i) = max i j := by split <;> omega
    rw [e]; exact h.ofI R
  · cases rs with | cons r1 rn => cases rn with | nil =>
    split at h
    · rename_i ws hm
      obtain ⟨q, vs, rfl, eq, hq, rvs⟩ := r1.lst R hm
      cases hp : ws.mapM intW with
      | none => rw [hp] at h; exact h.elim
      | some ns =>
        rw [hp] at h
        obtain rfl := ints_VR rvs hp
        cases ns with
        | nil => exact h.elim
        | cons x xs =>
          refine cr_max hc pins s σ H _ us Q I r ⟨q, x :: xs, rfl, .of hq, by simp, fun m hm hle => ?_⟩
          obtain ⟨a, b, c⟩ := foldl_max_le xs x
          have e : m = xs.foldl max x := by
            refine Int.le_antisymm ?_ ?_
            · rcases List.mem_cons.mp hm with rfl | hm
              · exact a
              · exact b m hm
            · rcases c with c | c
              · rw [c]; exact hle x List.mem_cons_self
              · exact hle _ (List.mem_cons_of_mem _ c)
          rw [e]; exact h.ofI R
    · exact h.elim
  · exact h.elim
theorem cr_total (hc : X.calm = true) : CallR X (.builtin "sum") (relN X.K X.mg bSum) := by
  intro pins s σ H xs us Q I r ⟨φ, M, ws, R, rs, h⟩
  unfold bSum at h
  split at h
  · cases rs with | cons r1 rn => cases rn with | nil =>
    split at h
    · rename_i ws hm
      obtain ⟨q, vs, rfl, eq, hq, rvs⟩ := r1.lst R hm
      cases hp : ws.mapM intW with
      | none => rw [hp] at h; exact h.elim
      | some ns =>
        rw [hp] at h
        obtain rfl := ints_VR rvs hp
        exact cr_sum hc pins s σ H _ us Q I r ⟨q, ns, rfl, .of hq, h.ofI R⟩
    · exact h.elim
  · exact h.elim
/-! ### dicts written -/
variable {Wx : WX} {pos : Pos}
theorem me_newK : ME X Wx (.Dict [] [] pos) eNewK := pe_dnewK.imp fun σ H Q h => by
  obtain ⟨φ, M, L, R, l, h⟩ := h
  exact fun p hp => h (φ ++ [p]) _ _ (R.new hp ⟨[], upd_same, rfl, .nil⟩) (.ref (by rw [← R.len]; simp)) .app (.laid hp)
theorem me_newT : ME X Wx (.Dict [] [] pos) eNewT := pe_dnewT.imp fun σ H Q h => by
  obtain ⟨φ, M, L, R, l, h⟩ := h
  exact fun p hp => h (φ ++ [p]) _ _ (R.new hp ⟨[], upd_same, rfl, .nil⟩) (.ref (by rw [← R.len]; simp)) .app (.laid hp)
/-- the pairs of a display -/
inductive MP (X : Cx) (Wx : WX) : List (Option Expr) → List Expr → List (EM × EM) → Prop where
  | nil : MP X Wx [] [] []
  | cons {k v : Expr} {ks : List (Option Expr)} {vs : List Expr} {mk mv : EM} {ps : List (EM × EM)} : ME X Wx k mk → ME X Wx v mv → MP X Wx ks vs ps → MP X Wx (some k :: ks) (v :: vs) ((mk, mv) :: ps)
theorem MP.pps {ks : List (Option Expr)} {vs : List Expr} {ps : List (EM × EM)} (h : MP X Wx ks vs ps) : PPs X pos ks vs (ps.map fun p => (tM X.K X.mg Wx p.1, tM X.K X.mg Wx p.2)) := by
  induction h with
  | nil => exact pps_nil
  | cons h1 h2 _ ih => exact pps_cons h1 h2 ih
/-- pairs of values -/
def VRp (K : Fr) (φ : Phi) (H : Hp) (ps : List (V × V)) (ws : List (W × W)) : Prop := VRs K φ H (ps.map (·.1)) (ws.map (·.1)) ∧ VRs K φ H (ps.map (·.2)) (ws.map (·.2))
theorem tPairs_of {σ : L2.St} {L : Loc} {E : XK} (hE : E = fun c d H' => Wx c d σ H') : ∀ {ps : List (EM × EM)} {φ : Phi} {M : Hh} {H : Hp} {Q : List (V × V) → Hp → Prop}, Rel K mg φ M H → LR K φ H σ L → Res K mg (VRp K) φ H (evPairs ps L M) Q E →
    tPairs (ps.map fun p => (tM K mg Wx p.1, tM K mg Wx p.2)) σ H Q
  | [], φ, M, H, Q, R, l, h => Res.here h R ⟨.nil, .nil⟩
  | (a, b) :: ps, φ, M, H, Q, R, l, h => by
    subst hE
    rw [List.map_cons]
    refine ⟨φ, M, L, R, l, (Res.seq h).imp (fun v H1 ⟨φ1, M1, w, R1, r1, e1, t1, h1⟩ => ?_) fun _ _ _ z => z⟩
    have l1 := l.mono e1 t1
    refine ⟨φ1, M1, L, R1, l1, (Res.seq h1).imp (fun v2 H2 ⟨φ2, M2, w2, R2, r2, e2, t2, h2⟩ => ?_) fun _ _ _ z => z⟩
    have l2 := l1.mono e2 t2
    refine tPairs_of rfl R2 l2 ((Res.seq h2).imp (fun qs H3 ⟨φ3, M3, ws, R3, r3, e3, t3, h3⟩ => ?_) fun _ _ _ z => z)
    exact Res.here h3 R3 ⟨.cons (r1.mono (e2.trans e3) (t2.trans t3)) r3.1, .cons (r2.mono e3 t3) r3.2⟩
theorem keys_pairs : ∀ {ps : List (V × V)} {ws : List (W × W)} {kvs : List (Key × W)}, VRp K φ H ps ws → ws.mapM (fun p => (keyW p.1).map fun k => (k, p.2)) = some kvs →
    ∃ ks : List (Key × V), ps = ks.map (fun kv => (kV kv.1, kv.2)) ∧ ks.map (·.1) = kvs.map (·.1) ∧ VRs K φ H (ks.map (·.2)) (kvs.map (·.2))
  | [], [], _, _, h => by cases h; exact ⟨[], rfl, rfl, .nil⟩
  | (p1, p2) :: ps, (w1, w2) :: ws, _, ⟨h1, h2⟩, h => by
    obtain ⟨y, ys, e1, e2, rfl⟩ := mapM_cons_some h
    cases h1 with | cons r1 h1 => cases h2 with | cons r2 h2 =>
    obtain ⟨ks, rfl, hk, hv⟩ := keys_pairs ⟨h1, h2⟩ e2
    cases hkw : keyW w1 with
    | none => simp only [hkw] at e1; cases e1
    | some key =>
      simp only [hkw, Option.map_some, Option.some.injEq] at e1
      subst e1
      obtain rfl := keyW_VR r1 hkw
      exact ⟨(key, p2) :: ks, rfl, by simp [hk], .cons r2 hv⟩
  | [], _ :: _, _, ⟨h1, _⟩, _ => nomatch h1
  | _ :: _, [], _, ⟨h1, _⟩, _ => nomatch h1
theorem me_disp {ks : List (Option Expr)} {vs : List Expr} {ps : List (EM × EM)} (h : MP X Wx ks vs ps) (hall : ks.all (·.isSome) = true := by rfl) (hl : ks.length = vs.length := by rfl) (h0 : ks ≠ [] := by exact fun z => nomatch z) (h15 : ks.length ≤ 15 := by decide) :
    ME X Wx (.Dict ks vs pos) (eDisp ps) := (pe_disp h.pps hall hl h0 h15).imp fun σ H Q h => by
  obtain ⟨φ, M, L, R, l, h⟩ := h
  intro p hp
  have R1 : Rel X.K X.mg (φ ++ [p]) (M ++ [.dk []]) (upd H p (.dK [])) := R.new hp ⟨[], upd_same, rfl, .nil⟩
  have hpn : (φ ++ [p])[M.length]? = some p := by rw [← R.len]; simp
  refine tPairs_of rfl R1 (l.mono .app (.laid hp)) ((Res.seq (Res.mono h .app (.laid hp))).imp (fun qs H3 ⟨φ3, M3, ws, R3, r3, e3, t3, h3⟩ => ?_) fun _ _ _ z => z)
  split at h3
  · rename_i kvs hm hkv
    split at h3
    · rename_i hz
      have ep := e3 _ _ hpn
      obtain ⟨ks0, ha, hk0, _⟩ := R3.ob' hm ep
      have hk0' : ks0 = [] := by cases ks0 with
        | nil => rfl
        | cons _ _ => simp at hk0
      subst hk0'
      obtain ⟨ks, rfl, hk, hv⟩ := keys_pairs r3 hkv
      have hlen : ks.length = kvs.length := by have := congrArg List.length hk; simpa using this
      have tw : TK X.K H3 (upd H3 p (.dK (mergeK [] ks))) := .write ha (by intro _ e; cases e) (by intro _ _ e; cases e)
      obtain ⟨m1, m2⟩ := merge_rel (ks := []) (kvs := []) hk hv rfl .nil
      refine ⟨ha, ks, rfl, by rw [hlen]; exact hz, h3 φ3 _ _ (R3.write ep ha (by intro _ e; cases e) (by intro _ _ e; cases e) ⟨_, upd_same, m1, m2.mono .refl tw⟩) (.ref ep) .refl tw⟩
    · exact h3.elim
  · exact h3.elim
theorem me_gint {x : Str} {i : Int} (hg : Gl X x) (hm : ∃ t, X.mg x = some (.int i t)) (hd : (x == ("__debug__" : Str)) = false := by decide) : ME X Wx (.Name x pos) (eCon (.int i)) := by
  obtain ⟨t, hm⟩ := hm
  exact me_con (pe_glob (v := .int i) hg hm ⟨t, rfl⟩ hd) fun _ _ => .d (.int i)
theorem me_gstr {x z : Str} (hg : Gl X x) (hm : ∃ t, X.mg x = some (.str z t)) (hz : PyData.strOk z = true := by decide +kernel) (hd : (x == ("__debug__" : Str)) = false := by decide) : ME X Wx (.Name x pos) (eCon (.str z)) := by
  obtain ⟨t, hm⟩ := hm
  exact me_con (pe_glob (v := .str z) hg hm ⟨t, rfl⟩ hd) fun _ _ => .d (.str z hz)
end
end Mi
end

section
set_option maxHeartbeats 4000000
/-! MiP4: list.index. -/
namespace Mi
open PySem PySem.Spec PyProof.Rows L2
section
variable {X : Cx} {K : Fr} {mg : Mg} {φ : Phi} {M : Hh} {H : Hp} {Q : VK} {E : XK} {k : Nat}
theorem mt_idx (hr : Room k X.A) : MtR X "list.index" (fun x xs H Q => relN X.K X.mg mIndex (x :: xs) H Q) := by
  intro pins s σ H x xs v us Q I rx rv ⟨φ, M, ws, R, rs, h⟩
  have hu1 : X.A.units + 64 < cLine := hr.units
  unfold mIndex at h
  split at h
  · cases rs with | cons r1 rn => cases rn with | cons r2 rn => cases rn with | nil =>
    split at h
    · rename_i ds d hm h1 h2
      split at h
      · rename_i hz
        obtain ⟨q, vs, rfl, eq, hq, rvs⟩ := r1.lst R hm
        obtain ⟨d1, c1⟩ := dataW_dp R _ r1 h1
        obtain ⟨d2, c2⟩ := dataW_dp R _ r2 h2
        cases hi : idxOf ds d with
        | none => rw [hi] at h; exact h.elim
        | some j =>
          rw [hi] at h
          obtain ⟨hj, e1, e2⟩ := List.findIdx?_eq_some_iff_getElem.mp hi
          refine mt_indexD (by have := hr.un; omega) pins s σ H _ _ v us Q I rx rv ⟨q, _, d, ds, j, ds[j], rfl, rfl, d1, d2, ?_, ?_, by simp [hj], e1, fun m z' hm' hz' => ?_, h.ofI R⟩
          · unfold SeqAt.shaped; rw [c1]; simpa using hz.1
          · unfold SeqAt.shaped; rw [c2]; simpa using hz.2
          · obtain ⟨hl, rfl⟩ := List.getElem?_eq_some_iff.mp hz'
            simpa using e2 m hm'
      · exact h.elim
    · exact h.elim
  · exact h.elim
theorem me_index {X : Cx} {Wx : WX} {o e : Expr} {m mo : EM} {k : Nat} {apos cpos : Pos} (hr : Room k X.A) (ho : ME X Wx o mo) (ha : ME X Wx e m) (h1 : starEach [e] X.env = (false, eval e X.env) :: starEach [] X.env := by rfl) (hbase : attributeBase o "index" X.env (eval o X.env) = eval o X.env := by rfl) (hfew : ((backTo cpos (starEach (e :: []) X.env)).all (fun x => !x.1) && (backToKw cpos (keywordEach [] X.env)).all (fun x => x.1.isSome) && decide ((e :: []).length + ([] : List Keyword).length + (if ([] : List Keyword).isEmpty then 0 else 1) < 30)) = true := by rfl) (hline : (apos.endLine == cpos.line) = true := by rfl) (hplain : (backTo cpos (starEach [] X.env)).any (·.1) = false := by rfl) :
    ME X Wx (.Call (.Attribute o "index" apos) [e] [] cpos) (eMetL mIndex mo (aCons m aNil)) := me_metL PySem.F.slot_list_index PySem.F.type_list_index (mt_idx hr) ho (ma_cons ha ma_nil h1) hbase hfew hline h1 hplain
theorem me_get1 {X : Cx} {Wx : WX} {o e : Expr} {m mo : EM} {k : Nat} {apos cpos : Pos} (hr : Room k X.A) (ho : ME X Wx o mo) (ha : ME X Wx e m) (hm : M1 X o "get" apos e cpos := by exact ⟨rfl, rfl, rfl, rfl⟩) :
    ME X Wx (.Call (.Attribute o "get" apos) [e] [] cpos) (eGet1 mo m) := (pe_dget1 (by have := hr.un; omega) ho ha hm).imp fun σ H Q h => by
  obtain ⟨φ, M, L, R, l, h⟩ := h
  refine ⟨φ, M, L, R, l, (Res.seq h).imp (fun v H1 ⟨φ1, M1, w, R1, r1, e1, t1, h1⟩ => ?_) fun _ _ _ z => z⟩
  split at h1
  · rename_i hd
    unfold isDct at hd
    split at hd
    · rename_i p
      obtain ⟨a, rfl, ea⟩ := r1.ref_inv
      refine ⟨a, rfl, ?_, φ1, M1, L, R1, l.mono e1 t1, (Res.seq h1).imp (fun y H2 ⟨φ2, M2, w2, R2, r2, e2, t2, h2⟩ => ?_) fun _ _ _ z => z⟩
      · split at hd
        · rename_i kvs hk
          obtain ⟨ks, hs, _⟩ := R1.ob' hk ea
          exact .inl ⟨_, .inl hs⟩
        · rename_i kvs hk
          obtain ⟨ks, hs, _⟩ := R1.ob' hk ea
          exact .inr ⟨_, .inl hs⟩
        · cases hd
      · have ea2 := (r1.mono e2 t2).ref_inv
        obtain ⟨a', e', ea2⟩ := ea2
        cases e'
        simp only [opGet1] at h2
        cases hm2 : M2[p]? with
        | none => rw [hm2] at h2; exact h2.elim
        | some ob =>
          rw [hm2] at h2
          have hob := R2.ob' hm2 ea2
          cases hd2 : dget ob w2 with
          | none => simp only [hd2] at h2; exact h2.elim
          | some r =>
            simp only [hd2, Option.map_some] at h2
            obtain ⟨z, g, hz⟩ := dget_ok hob r2 hd2
            refine ⟨z, g, ?_⟩
            rcases hz with ⟨rfl, rfl⟩ | ⟨v, u, rfl, rfl, rv⟩
            · exact h2.ofV R2 (.d .non)
            · exact h2.ofV R2 rv
    · cases hd
  · exact h1.elim
theorem kit_two {K : Fr} {t A B : String} {b1 b2 : Bool} (h1 : kitB t A = some b1) (h2 : kitB t B = some b2) : PySem.W.kitAny K (.type t) [.type A, .type B] = some (b1 || b2) := by
  refine kitAny_cons (kit_ty h1) (fun e => ?_) (fun e => by rw [e]; rfl)
  subst e
  refine kitAny_cons (kit_ty h2) (fun e => ?_) (fun e => by rw [e]; rfl)
  subst e
  rfl
theorem me_isI2 {X : Cx} {Wx : WX} {a : Expr} {ma : EM} {A B : String} {x y : Str} {p pA pB pt pos : Pos} {ct} (hg : Gl X "isinstance") (hm : X.mg "isinstance" = none) (ha : ME X Wx a ma) (gA : Gl X x) (mA : X.mg x = none) (gB : Gl X y) (mB : X.mg y = none)
    (kA : kitOk A = true := by decide +kernel) (kB : kitOk B = true := by decide +kernel) (hA : bootBuiltins x = some (.type A) := by decide +kernel) (hB : bootBuiltins y = some (.type B) := by decide +kernel) (nA : x ≠ "__name__" := by decide) (nB : y ≠ "__name__" := by decide) (dA : (x == ("__debug__" : Str)) = false := by decide) (dB : (y == ("__debug__" : Str)) = false := by decide)
    (hv : bootBuiltins "isinstance" = some (.builtin "isinstance") := by decide +kernel)
    (he : starEach [a, .Tuple [.Name x pA, .Name y pB] ct pt] X.env = (false, eval a X.env) :: starEach [.Tuple [.Name x pA, .Name y pB] ct pt] X.env := by rfl) (he2 : starEach [.Tuple [.Name x pA, .Name y pB] ct pt] X.env = (false, eval (.Tuple [.Name x pA, .Name y pB] ct pt) X.env) :: starEach [] X.env := by rfl)
    (he3 : starEach [.Name x pA, .Name y pB] X.env = (false, eval (.Name x pA) X.env) :: starEach [.Name y pB] X.env := by rfl) (he4 : starEach [.Name y pB] X.env = (false, eval (.Name y pB) X.env) :: starEach [] X.env := by rfl) (hpl : (backTo pos (starEach [.Tuple [.Name x pA, .Name y pB] ct pt] X.env)).any (·.1) = false := by rfl) :
    ME X Wx (.Call (.Name "isinstance" p) [a, .Tuple [.Name x pA, .Name y pB] ct pt] [] pos) (eOp1 (isIs [A, B]) ma) :=
  (pe_callB call_isiT hg hm hv (pa_cons ha (pa_cons (pe_tup (pa_cons (pe_bltn (v := .ty A) gA mA hA rfl nA dA) (pa_cons (pe_bltn (v := .ty B) gB mB hB rfl nB dB) pa_nil he4) he3)) pa_nil he2) he) (by decide) (by decide) he hpl).imp fun σ H Q h => by
    obtain ⟨φ, M, L, R, l, h⟩ := h
    refine ⟨φ, M, L, R, l, (Res.seq h).imp (fun v H1 ⟨φ1, M1, w, R1, r1, e1, t1, h1⟩ => ?_) fun _ _ _ z => z⟩
    unfold isIs at h1
    cases ht : tyW M1 w with
    | none => rw [ht] at h1; exact h1.elim
    | some t =>
      rw [ht] at h1
      refine ⟨show 2 ≤ sizeLine by decide, fun q nq => ?_⟩
      have RX : Rel X.K X.mg φ1 M1 (upd H1 q (.tup [.ty A, .ty B])) := R1.other nq
      have TX : TK X.K H1 (upd H1 q (.tup [.ty A, .ty B])) := .laid nq
      obtain ⟨ty, mem⟩ := tyW_ok RX (r1.mono .refl TX) ht
      have fA : kitB t A = some (t == A || (t == "bool" && A == "int")) := by simpa using List.all_eq_true.mp kA t mem
      have fB : kitB t B = some (t == B || (t == "bool" && B == "int")) := by simpa using List.all_eq_true.mp kB t mem
      refine ⟨v, q, [.ty A, .ty B], .type t, [.type A, .type B], _, rfl, upd_same, .cons (.ty A) (.cons (.ty B) .nil), ty, kit_two fA fB, ?_⟩
      have := h1 φ1 _ _ RX (.d (.bl _)) .refl TX
      simpa using this
end
end Mi
end

section
set_option maxHeartbeats 4000000
/-! MiX3: the operations of MiO4 are the machine's. -/
namespace Mi
open PySem PySem.Spec PyProof.Rows L2
section
variable {X : Cx} {K : Fr} {mg : Mg} {φ : Phi} {M : Hh} {H : Hp} {Q : VK} {E : XK} {k : Nat}
theorem leS_trans (a b c : Str) (h1 : leS a b = true) (h2 : leS b c = true) : leS a c = true := by
  simp only [leS, Bool.not_eq_true', decide_eq_false_iff_not] at *
  exact fun h => by
    by_cases q : c.cps.toList < b.cps.toList
    · exact h2 q
    · exact h1 (List.lt_of_le_of_lt (List.not_lt.mp q) h)
theorem leS_total (a b : Str) : (leS a b || leS b a) = true := by
  simp only [leS, Bool.or_eq_true, Bool.not_eq_true', decide_eq_false_iff_not]
  by_cases q : b.cps.toList < a.cps.toList
  · exact .inr (List.lt_asymm q)
  · exact .inl q
theorem leS_anti (a b : Str) (h1 : leS a b = true) (h2 : leS b a = true) : a = b := by
  simp only [leS, Bool.not_eq_true', decide_eq_false_iff_not] at *
  have e : a.cps.toList = b.cps.toList := List.le_antisymm (List.not_lt.mp h1) (List.not_lt.mp h2)
  obtain ⟨⟨x⟩⟩ := a
  obtain ⟨⟨y⟩⟩ := b
  simpa using e
theorem risingS_pair : ∀ {ys : List Str} {p : Str}, risingS p ys = true → (p :: ys).Pairwise (fun a b => leS a b = true)
  | [], p, _ => by simp
  | y :: ys, p, h => by
    simp only [risingS, Bool.and_eq_true] at h
    obtain ⟨h1, h2⟩ := h
    have ih := risingS_pair h2
    have h0 : leS p y = true := by
      rw [ltCps_eq] at h1
      exact h1
    refine List.pairwise_cons.mpr ⟨fun z hz => ?_, ih⟩
    rcases List.mem_cons.mp hz with rfl | hz
    · exact h0
    · exact leS_trans _ _ _ h0 ((List.pairwise_cons.mp ih).1 z hz)
theorem sortS_eq {xs ys : List Str} (hp : ys.Perm xs) (hs : sortedS ys = true) : ys = sortS xs := by
  have h1 : ys.Pairwise (fun a b => leS a b = true) := by
    cases ys with
    | nil => simp
    | cons y ys => exact risingS_pair hs
  have h2 := List.pairwise_mergeSort (le := leS) leS_trans leS_total xs
  exact List.Perm.eq_of_pairwise (le := fun a b => leS a b = true) (fun a b _ _ => leS_anti a b) h1 h2 (hp.trans (List.mergeSort_perm xs _).symm)
theorem keys_str : ∀ {ks : List Key} {ns : List Str}, ks.mapM strK = some ns → ks = ns.map Sum.inr
  | [], _, h => by cases h; rfl
  | k :: ks, _, h => by
    obtain ⟨y, ys, h1, h2, rfl⟩ := mapM_cons_some h
    rw [keys_str h2]
    cases k with
    | inr i => cases h1; rfl
    | inl x => cases h1

theorem cr_sort2 (hc : X.calm = true) : CallR X (.builtin "sorted") (relN X.K X.mg bSorted2) := by
  intro pins s σ H xs us Q I r ⟨φ, M, ws, R, rs, h⟩
  have old : relN X.K X.mg bSorted xs H Q → wpAny (model X.prog X.w) X.A (call (.builtin "sorted") us) (EP X pins σ Q) X.xe s := fun q => cr_sort hc pins s σ H xs us Q I r q
  unfold bSorted2 at h
  split at h
  · rename_i p
    split at h
    · rename_i kvs hm
      cases hp : (kvs.map (·.1)).mapM strK with
      | none => rw [hp] at h; exact old ⟨φ, M, _, R, rs, h⟩
      | some ns =>
        rw [hp] at h
        dsimp only at h
        cases rs with | cons r1 rn => cases rn with | nil =>
        obtain ⟨q, rfl, eq⟩ := r1.ref_inv
        obtain ⟨ks, ha, hk, hv⟩ := R.ob' hm eq
        split at h
        · rename_i hz
          have e := keys_str hp
          refine call_sortedD hc pins s σ H _ us Q I r ⟨q, ks, ns, rfl, .inl ha, hk.trans e, hz.1, fun ys p h1 h2 hp => ?_⟩
          have hok : ∀ y ∈ ys, PyData.strOk y = true := fun y hy => List.all_eq_true.mp hz.2 y (h1.mem_iff.mp hy)
          rw [sortS_eq h1 h2] at hok ⊢
          have rel : ∀ ns : List Str, (∀ y ∈ ns, PyData.strOk y = true) → VRs X.K φ H (ns.map V.str) (ns.map W.str) := fun ns => by
            induction ns with
            | nil => intro _; exact .nil
            | cons n ns ih => intro h; exact .cons (.d (.str n (h n List.mem_cons_self))) (ih fun y hy => h y (List.mem_cons_of_mem _ hy))
          exact h.ofL R (rel _ hok) p hp
        · exact h.elim
    · exact old ⟨φ, M, _, R, rs, h⟩
  · exact old ⟨φ, M, _, R, rs, h⟩
theorem pick_all {α β : Type} {P : Nat → α → β → Prop} : ∀ (xs : List α), (∀ (j : Nat) (x : α), xs[j]? = some x → ∃ y, P j x y) → ∃ ys : List β, ys.length = xs.length ∧ ∀ (j : Nat) (x : α), xs[j]? = some x → ∃ y, ys[j]? = some y ∧ P j x y := by
  intro xs
  induction xs generalizing P with
  | nil => intro _; exact ⟨[], rfl, fun j x h => by simp at h⟩
  | cons x xs ih =>
    intro h
    obtain ⟨y, hy⟩ := h 0 x rfl
    obtain ⟨ys, hl, hys⟩ := ih (P := fun j => P (j + 1)) fun j z hz => h (j + 1) z (by simpa using hz)
    refine ⟨y :: ys, by simp [hl], fun j z hz => ?_⟩
    cases j with
    | zero => simp at hz; subst hz; exact ⟨y, rfl, hy⟩
    | succ j => simpa using hys j z (by simpa using hz)
/-- dict(t), t a tuple of pairs -/
theorem call_dictT (hcalm : X.calm = true) : CallR X (.type "dict") (fun xs H Q => ∃ (a : Addr) (ps : List Addr) (kvs : List (Key × V)), xs = [.ref a] ∧ TupAt H a (ps.map V.ref) ∧ Paired (fun p kv => SqT X.K H p [kV kv.1, kv.2]) ps kvs ∧
    ∀ p, H p = none → Q (.ref p) (upd H p (.dK (mergeK [] kvs)))) := by
  intro pins s σ H xs us Q I r ⟨a, ps, kvs, ex, ⟨its, ha⟩, hp, q⟩
  subst ex
  obtain ⟨u, eu, rx⟩ := vals1 r
  subst eu
  cases rx
  obtain ⟨hg, hz, its2, rv, o2, g2, c2, n2, d2⟩ := (show ObjOk X.prog X.w H s.heap a (.frz (plT its) (.tup (ps.map V.ref))) from I.hok a _ ha)
  rw [hg] at g2
  cases g2
  injection d2 with d2 _
  have ei : its2 = its := by simpa using d2.symm
  subst ei
  have ei := refs_at rv
  subst ei
  rw [List.length_map] at hz
  obtain ⟨prs, rel, hl, hpr⟩ := pairs_of I hp
  obtain ⟨ks, hkl, hks⟩ := pick_all (P := fun j (q : Key × Value) (z : Value × Addr) => ps[j]? = some z.2 ∧ IsTup s.heap z.2 #[z.1, q.2] ∧ keyIs q.1 z.1 = true) prs fun j q e => by
    obtain ⟨b, u, e1, e2, e3⟩ := hpr j q e
    exact ⟨(u, b), e1, e2, e3⟩
  have at_ : ∀ (j : Nat) (k v : Value), ((ks.map (·.1)).zip (prs.map (·.2)))[j]? = some (k, v) → ∃ (z : Value × Addr) (q : Key × Value), ks[j]? = some z ∧ prs[j]? = some q ∧ k = z.1 ∧ v = q.2 := fun j k v e => by
    rw [List.getElem?_zip_eq_some] at e
    obtain ⟨e1, e2⟩ := e
    rw [List.getElem?_map] at e1 e2
    obtain ⟨z, hz, rfl⟩ := Option.map_eq_some_iff.mp e1
    obtain ⟨q, hq, rfl⟩ := Option.map_eq_some_iff.mp e2
    exact ⟨z, q, hz, hq, rfl, rfl⟩
  have plen : ((ks.map (·.1)).zip (prs.map (·.2))).length = prs.length := by simp [hkl]
  have PA := PairArg.tuple (prog := X.prog) (w := X.w) a (ps.map Value.ref).toArray (fun j => (ps[j]?).getD 0) ((ks.map (·.1)).zip (prs.map (·.2)))
  refine _root_.PySem.call_dict_pairs (knd := mixKind X.prog X.w) (kvs := prs) PA (I.ok.hd hcalm) ⟨⟨_, _, hg, rfl, rfl, rfl⟩, by simp [hkl, hl], fun j k v e => ?_⟩ ⟨plen.symm, fun j k v e => ?_⟩ (by rw [plen, hl]; exact hz) fun h' tk hd' kp => ?_
  · obtain ⟨z, q, h1, h2, rfl, rfl⟩ := at_ j k v e
    obtain ⟨z', h3, h4, h5, h6⟩ := hks j q h2
    rw [h1] at h3; cases h3
    refine ⟨?_, .inl ?_⟩
    · simp [h4]
    · simp only [h4, Option.getD_some]
      exact h5
  · obtain ⟨z, q, h1, h2, rfl, rfl⟩ := at_ j k v e
    obtain ⟨z', h3, h4, h5, h6⟩ := hks j q h2
    rw [h1] at h3; cases h3
    exact ⟨q.1, h2, h6⟩
  · have hm : (s.heap.objs.size == sysModules) = false := beq_eq_false_iff_ne.mpr (Nat.ne_of_gt I.big)
    have hlen : (mergeK [] kvs).length ≤ sizeLine := by
      refine Nat.le_trans (length_mergeK kvs []) ?_
      rw [List.length_nil, Nat.zero_add, rel.length, hl]
      exact hz
    exact ⟨.ref s.heap.objs.size, upd H s.heap.objs.size (.dK (mergeK [] kvs)), I.laid (t' := tk) (fun b o e => kp b o (by simp) e) (Nat.le_refl _) (show ObjOk X.prog X.w _ _ _ (.dK (mergeK [] kvs)) from ⟨hlen, hm, merged [] prs, KV.merge rel .nil, hd'⟩), rfl, q _ (I.hok.fresh (Nat.le_refl _))⟩
theorem cr_dict2 (hc : X.calm = true) : CallR X (.type "dict") (relN X.K X.mg bDict2) := by
  intro pins s σ H xs us Q I r ⟨φ, M, ws, R, rs, h⟩
  unfold bDict2 at h
  split at h
  · exact cr_dict hc pins s σ H xs us Q I r ⟨φ, M, _, R, rs, h⟩
  · rename_i w _
    cases rs with | cons r1 rn => cases rn with | nil =>
    cases hi : w.items with
    | none => rw [hi] at h; exact h.elim
    | some ws =>
      rw [hi] at h
      dsimp only at h
      split at h
      · cases hp : ws.mapM pairW with
        | none => rw [hp] at h; exact h.elim
        | some kvs =>
          rw [hp] at h
          obtain ⟨a, vs, rfl, ha, rvs⟩ := r1.items hi
          obtain ⟨ps, ks, rfl, hps, hk, hv⟩ := pairs_rel rvs hp
          obtain ⟨m1, m2⟩ := merge_rel (ks := []) (kvs := []) hk hv rfl .nil
          exact call_dictT hc pins s σ H _ us Q I r ⟨a, ps, ks, rfl, ha, hps, fun p hp => h.ofK R m1 m2 p hp⟩
      · exact h.elim
  · exact h.elim
/-- list.pop(i) -/
theorem mt_popW : MtR X "list.pop" (fun x xs H Q => relN X.K X.mg mPopAt (x :: xs) H Q) := by
  intro pins s σ H x xs v us Q I rx rv ⟨φ, M, ws, R, rs, h⟩
  unfold mPopAt at h
  split at h
  · rename_i p i
    cases rs with | cons r1 rn => cases rn with | cons r2 rn => cases rn with | nil =>
    obtain rfl := r2.int_inv
    split at h
    · rename_i ws hm
      obtain ⟨q, vs, rfl, eq, hq, rvs⟩ := r1.lst R hm
      split at h
      · rename_i hz
        cases hi : Mi.ixN ws.length i with
        | none => simp only [hi] at h; exact h.elim
        | some j =>
          simp only [hi] at h
          cases hy : ws[j]? with
          | none => simp only [hy] at h; exact h.elim
          | some y =>
            simp only [hy] at h
            obtain ⟨z, hz2, rz⟩ := rvs.get' hy
            have hi2 : L2.ixN vs.length i = some j := by rw [rvs.length]; exact hi
            obtain ⟨s1, _, _, _⟩ := L2.ixN_seq hi2
            have er : ∀ {vs : List V} {ws : List W} (j : Nat), VRs X.K φ H vs ws → VRs X.K φ H (vs.eraseIdx j) (ws.eraseIdx j) := by
              intro vs
              induction vs with
              | nil => intro ws j r; cases r; exact .nil
              | cons v vs ih =>
                intro ws j r
                cases r with
                | cons r s =>
                  cases j with
                  | zero => exact s
                  | succ j => exact .cons r (ih j s)
            refine mt_popAt pins s σ H _ _ v us Q I rx rv ⟨q, vs, i, j, z, rfl, rfl, hq, by omega, by omega, s1, hz2, ?_⟩
            have tk : TK X.K H (upd H q (.lst (vs.eraseIdx j))) := .write hq (by intro _ e; cases e) (by intro _ _ e; cases e)
            exact h φ _ z (R.write eq hq (by intro _ e; cases e) (by intro _ _ e; cases e) ⟨_, upd_same, (er j rvs).mono .refl tk⟩) (rz.mono .refl tk) .refl tk
      · exact h.elim
    · exact h.elim
  · exact h.elim
theorem me_popAt {X : Cx} {Wx : WX} {o e : Expr} {m mo : EM} {apos cpos : Pos} (ho : ME X Wx o mo) (ha : ME X Wx e m) (h1 : starEach [e] X.env = (false, eval e X.env) :: starEach [] X.env := by rfl) (hbase : attributeBase o "pop" X.env (eval o X.env) = eval o X.env := by rfl)
    (hfew : ((backTo cpos (starEach (e :: []) X.env)).all (fun x => !x.1) && (backToKw cpos (keywordEach [] X.env)).all (fun x => x.1.isSome) && decide ((e :: []).length + ([] : List Keyword).length + (if ([] : List Keyword).isEmpty then 0 else 1) < 30)) = true := by rfl) (hline : (apos.endLine == cpos.line) = true := by rfl) (hplain : (backTo cpos (starEach [] X.env)).any (·.1) = false := by rfl) :
    ME X Wx (.Call (.Attribute o "pop" apos) [e] [] cpos) (eMetL mPopAt mo (aCons m aNil)) := me_metL PySem.F.slot_list_pop PySem.F.type_list_pop mt_popW ho (ma_cons ha ma_nil h1) hbase hfew hline h1 hplain
/-! ### repr -/
theorem repr_letter : ∀ c, 97 ≤ c → c ≤ 122 → Builtin.Str.reprChar 39 c = [c] := by
  intro c h1 h2
  have key : ((List.range 26).all fun i => decide (Builtin.Str.reprChar 39 (97 + i) = [97 + i])) = true := by decide +kernel
  have := List.all_eq_true.mp key (c - 97) (List.mem_range.mpr (by omega))
  have e : 97 + (c - 97) = c := by omega
  rw [e] at this
  exact of_decide_eq_true this
theorem fold_letters (q : Nat) (hq : q = 39) : ∀ (l : List Nat) (acc : Array Nat), (∀ c ∈ l, 97 ≤ c ∧ c ≤ 122) → l.foldl (fun out c => out ++ (Builtin.Str.reprChar q c).toArray) acc = acc ++ l.toArray
  | [], acc, _ => by simp
  | c :: l, acc, h => by
    subst hq
    obtain ⟨h1, h2⟩ := h c List.mem_cons_self
    rw [List.foldl_cons, repr_letter c h1 h2, fold_letters 39 rfl l _ fun d hd => h d (List.mem_cons_of_mem _ hd)]
    apply Array.ext'
    simp
theorem reprText_letters {x : Str} (h : lettersB x = true) : reprText x = ⟨(39 :: (x.cps.toList ++ [39])).toArray⟩ := by
  unfold lettersB at h
  have hm : ∀ c ∈ x.cps.toList, 97 ≤ c ∧ c ≤ 122 := fun c hc => by simpa using List.all_eq_true.mp h c hc
  have hq : reprQuote x = 39 := by
    unfold reprQuote
    have : x.cps.contains 39 = false := by
      rw [Bool.eq_false_iff]
      intro hc
      have hc := Array.contains_iff_mem.mp hc
      have := hm 39 (by simpa using hc)
      omega
    rw [this]
    rfl
  unfold reprText
  rw [hq, ← Array.foldl_toList, fold_letters 39 rfl _ _ hm]
  congr 1
  apply Array.ext'
  simp
theorem strOk_ofString (s : String) : PyData.strOk (Str.ofString s) = true := by
  rw [Str.ofString_eq_toList]
  unfold PyData.strOk
  rw [← Array.all_toList]
  refine List.all_eq_true.mpr fun c hc => ?_
  obtain ⟨d, _, rfl⟩ := List.mem_map.mp hc
  have h := d.valid
  simp only [UInt32.isValidChar, Nat.isValidChar] at h
  show decide (d.toNat < 0x110000) = true
  have e : d.toNat = d.val.toNat := rfl
  simp only [decide_eq_true_eq]
  omega
theorem cr_repr2 : CallR X (.builtin "repr") (relN X.K X.mg bRepr2) := by
  intro pins s σ H xs us Q I r ⟨φ, M, ws, R, rs, h⟩
  unfold bRepr2 at h
  split at h
  · cases rs with | cons r1 rn => cases rn with | nil =>
    obtain rfl := r1.none_inv
    obtain ⟨u, rfl, rfl⟩ := vals1 r
    exact PySem.P.repr_of_none ⟨.str _, H, I.tok _, ⟨_, rfl⟩, h.ofS R (by decide +kernel)⟩
  · exact cr_repr pins s σ H xs us Q I r ⟨φ, M, _, R, rs, h⟩
  · rename_i i
    cases rs with | cons r1 rn => cases rn with | nil =>
    obtain rfl := r1.int_inv
    split at h
    · rename_i hz
      obtain ⟨u, rfl, t, rfl⟩ := vals1 r
      have hok : PyData.strOk (Str.ofString (toString i)) = true := strOk_ofString _
      exact PySem.P.repr_of_int hz ⟨.str _, H, I.tok _, ⟨_, rfl⟩, h.ofS R hok⟩
    · exact h.elim
  · rename_i x
    cases rs with | cons r1 rn => cases rn with | nil =>
    obtain rfl := r1.str_inv
    split at h
    · rename_i hz
      obtain ⟨u, rfl, t, rfl⟩ := vals1 r
      have e := reprText_letters hz.2
      have hl : (reprText x).length ≤ sizeLine := by
        rw [e, sizeLine_eq]
        show (39 :: (x.cps.toList ++ [39])).toArray.size ≤ _
        have : x.cps.toList.length ≤ 1000 := by rw [Array.length_toList]; exact hz.1
        simp only [List.size_toArray, List.length_cons, List.length_append, List.length_nil]
        omega
      refine PySem.P.repr_of_str ⟨.str _, H, I.tok _, ⟨_, rfl⟩, ?_⟩ hl
      rw [e]
      refine h.ofS R ?_
      unfold PyData.strOk
      rw [Array.all_eq_true]
      intro j hj
      have hmem := Array.getElem_mem (xs := (39 :: (x.cps.toList ++ [39])).toArray) hj
      have : (39 :: (x.cps.toList ++ [39])).toArray[j] ∈ (39 :: (x.cps.toList ++ [39])) := by simpa using hmem
      generalize (39 :: (x.cps.toList ++ [39])).toArray[j] = c at this ⊢
      have hc : c ≤ 122 := by
        rcases List.mem_cons.mp this with h | h
        · omega
        · rcases List.mem_append.mp h with h | h
          · have := List.all_eq_true.mp hz.2 c h
            simp at this; omega
          · simp at h; omega
      simp; omega
    · exact h.elim
  · exact h.elim
end
end Mi
end

section
set_option maxHeartbeats 4000000
/-! MiH: the head's facts with closures: own exception classes. -/
namespace MiH
open PySem PySem.Spec PyProof.Rows L2 Mi He
def closG (g : Addr → Option Obj) (as : List Addr) : List Addr := as.flatMap fun a => match g a with
  | some ⟨_, _, .func fd, _⟩ => fd.closure.map (·.2)
  | _ => []
def asM (g : Addr → Option Obj) (n : Nat) : List Addr := asG g n ++ (closG g (asG g n) ++ [cStatics])
/-- an own exception class below ValueError -/
def oexB (K : PySem.W.Frag) (C : Addr) : Bool := match K.lookup C with
  | some ⟨.type ty, dd, .cls cd, sl⟩ => (match cd.mro, sl.toList with
    | .ref C' :: bm, [_, _, _, _, some (.builtin n), _] => decide (ty = "type") && (decide (C' = C) && (decide (n = "ValueError.__new__") && ((!cd.hasDel) && (cd.hasDict && PySem.HandSPX.refsVE bm))))
    | _, _ => false)
  | _ => false
def oexB2 (K : PySem.W.Frag) (C : Addr) : Bool := oexB K C && (eqO (PySem.W.findIn K (.ref C) "__setattr__") (some (some (.builtin "object.__setattr__"))) && (decide (PySem.W.subIn K (.ref C) (.type "BaseException") = some true) && (decide (PySem.W.typeIn K (.ref C) = some (.type "type")) && PySem.W.keepIn K (.ref C))))
theorem oex_ok {K : PySem.W.Frag} {C : Addr} (h : oexB2 K C = true) : OexC K C := by
  obtain ⟨h0, h⟩ := ba h
  obtain ⟨h1, h⟩ := ba h
  obtain ⟨h2, h⟩ := ba h
  obtain ⟨h3, h4⟩ := ba h
  refine ⟨?_, eqO_ok h1, of_decide_eq_true h2, of_decide_eq_true h3, h4⟩
  unfold oexB at h0
  split at h0
  · rename_i ty dd cd sl ho
    split at h0
    · rename_i C' bm k0 k1 k2 k3 n k5 hm hs
      simp only [Bool.and_eq_true, decide_eq_true_eq, Bool.not_eq_true'] at h0
      obtain ⟨rfl, rfl, rfl, hdel, hdict, hbm⟩ := h0
      obtain ⟨nm, bs, mro, ns, qn, hd, sn, sub, ab, col, del⟩ := cd
      dsimp only at hm hdel hdict
      subst hm hdel hdict
      have hsl : sl = #[k0, k1, k2, k3, some (.builtin "ValueError.__new__"), k5] := by
        obtain ⟨l⟩ := sl
        simp only at hs
        rw [hs]
      subst hsl
      exact ⟨nm, qn, ns, bs, bm, sn, sub, ab, col, dd, k0, k1, k2, k3, k5, ho, hbm⟩
    · cases h0
  · cases h0
/-- isinstance, fields of such an exception -/
def xisB (K : PySem.W.Frag) (C : Addr) : Bool := eqO (PySem.W.findIn K (.ref C) "__getattribute__") (some (some (.builtin "BaseException.__getattribute__"))) && (eqO (PySem.W.findIn K (.ref C) "__getattr__") (some none) && (decide (PySem.W.subIn K (.ref C) (.type "BaseException") = some true) && (PySem.W.hasDictIn K C &&
  (eqO (PySem.W.findIn K (.ref C) "__class__") (some (some (.builtin "object.__class__"))) && (eqO (PySem.W.specialIn K (.builtin "object.__class__") "__get__") (some (some (.builtin "getset_descriptor.__get__"))) && (decide (PySem.W.takesIn K (.builtin "object.__class__") = some true) && decide (PySem.W.mroIn K C (.type "object") = some true)))))))
theorem xis_ok {K : PySem.W.Frag} {C : Addr} (h : xisB K C = true) : ExcC K C ∧ XfC K C := by
  obtain ⟨h1, h⟩ := ba h
  obtain ⟨h2, h⟩ := ba h
  obtain ⟨h3, h⟩ := ba h
  obtain ⟨h4, h⟩ := ba h
  obtain ⟨h5, h⟩ := ba h
  obtain ⟨h6, h⟩ := ba h
  obtain ⟨h7, h8⟩ := ba h
  exact ⟨⟨eqO_ok h1, eqO_ok h2, of_decide_eq_true h3, h4, eqO_ok h5, eqO_ok h6, of_decide_eq_true h7, of_decide_eq_true h8⟩, ⟨eqO_ok h1, eqO_ok h2, of_decide_eq_true h3, h4⟩⟩
/-! ### an __init__ that says super().__init__ -/
/-- class, qualified name, the statement -/
structure XD where
  x : Str
  qual : Str
  st : Stmt
abbrev inV : Type := Option (Str × Str × Arguments × FuncBody × Scope × Addr × Value × Addr)
def iAd (K : PySem.W.Frag) (x : Str) : Addr := ma K (ga K x) "__init__"
def inObs (K : PySem.W.Frag) (x : Str) : inV := match K.lookup (iAd K x) with
  | some ⟨_, _, .func fd, _⟩ => some (fd.name, fd.qualname, fd.params, fd.body, fd.scope, fd.globals, fd.defaults, fd.builtins)
  | _ => none
def XD.val (d : XD) : inV := some ("__init__", d.qual, defArgs d.st, .stmts (defBody d.st), defScope d.st, mainGlobals, .none, builtinsNs)
def inB (P : Program) (K : PySem.W.Frag) (d : XD) : Bool := (match K.lookup (iAd K d.x) with
  | some ⟨_, _, .func fd, _⟩ => (match fd.closure, fd.code with
    | [(n, cc)], .ref c => decide (n = "__class__") && (PySem.W.codeIn K (.ref c) d.qual && ((match K.lookup cc with
      | some ⟨_, _, .cell (some (.ref D)), _⟩ => decide (D = ga K d.x)
      | _ => false) && (match K.lookup c with
      | some ⟨_, _, .fields vs, _⟩ => (match (vs[2]? : Option Value) with
        | some (.str file _) => (P.main.file : Str) == file
        | _ => false)
      | _ => false)))
    | _, _ => false)
  | _ => false) && (oexB2 K (ga K d.x) && (eqO (PySem.W.findIn K (.ref (ga K d.x)) "__init__") (some (some (.ref (iAd K d.x)))) && (decide (PySem.W.typeIn K (.ref (iAd K d.x)) = some (.type "function")) && (eqO (PySem.W.nsIn K cStatics "thirdparty.any") (some none) &&
    (eqO (PySem.W.ks_superIn K (ga K d.x) (ga K d.x) "__init__") (some (some (.builtin "ValueError.__init__"))) && (decide (PySem.W.subIn K (.ref (ga K d.x)) (.type "ValueError") = some true) && (decide (PySem.W.mroIn K (ga K d.x) (.ref (ga K d.x)) = some true) && !(P.main.scope.names.lookup ("super" : Str)).isSome)))))))
theorem in_ok {P : Program} {K : PySem.W.Frag} {d : XD} (e : inObs K d.x = d.val) (h : inB P K d = true) : ∃ fd, InitC P K d.qual d.st (ga K d.x) (iAd K d.x) fd := by
  obtain ⟨h0, h⟩ := ba h
  obtain ⟨h1, h⟩ := ba h
  obtain ⟨h2, h⟩ := ba h
  obtain ⟨h3, h⟩ := ba h
  obtain ⟨h4, h⟩ := ba h
  obtain ⟨h5, h⟩ := ba h
  obtain ⟨h6, h⟩ := ba h
  obtain ⟨h7, h8⟩ := ba h
  unfold inObs at e
  split at e
  · rename_i oc od fd osl lk
    rw [lk] at h0
    dsimp only at h0
    split at h0
    · rename_i n cc c hcl hco
      obtain ⟨a1, a⟩ := ba h0
      obtain ⟨a2, a⟩ := ba a
      obtain ⟨a3, a4⟩ := ba a
      obtain ⟨n1, n2, n3, n4, n5, n6, n7, n8, n9, n10, n11, n12, n13, n14, n15⟩ := fd
      dsimp only at hcl hco
      have e2 : (some (n1, n2, n3, n4, n5, n6, n8, n15) : inV) = (some (("__init__" : Str), d.qual, defArgs d.st, FuncBody.stmts (defBody d.st), defScope d.st, mainGlobals, Value.none, builtinsNs) : inV) := e
      simp only [Option.some.injEq, Prod.mk.injEq] at e2
      obtain ⟨b1, b2, b3, b4, b5, b6, b7, b8⟩ := e2
      obtain rfl : n = "__class__" := of_decide_eq_true a1
      subst b1 b2 b3 b4 b5 b6 b7 b8 hcl hco
      refine ⟨_, ⟨oex_ok h1, eqO_ok h2, of_decide_eq_true h3, ⟨oc, od, _, osl, _, _, _, _, c, cc, rfl, lk, a2, ?_, ?_⟩, eqO_ok h4, eqO_ok h5, of_decide_eq_true h6, of_decide_eq_true h7, by simpa using h8⟩⟩
      · split at a4
        · rename_i ccl cdd vs ccs lc
          split at a4
          · rename_i file tf hv
            exact ⟨ccl, cdd, vs, ccs, file, tf, lc, hv, a4⟩
          · cases a4
        · cases a4
      · split at a3
        · rename_i cl cld D csl lc
          obtain rfl : D = _ := of_decide_eq_true a3
          exact ⟨cl, cld, csl, lc⟩
        · cases a3
    · cases h0
  · cases e
/-! ### the Hook -/
abbrev AlM : Type := Al × List inV × Bool
def obsMK (P : Program) (fa : List Fa) (fn : List FnD) (xs : List XD) (ex : PySem.W.Frag → Bool) (K : PySem.W.Frag) : AlM := (obsE fa fn K, xs.map fun d => inObs K d.x, xs.all (inB P K) && ex K)
def valM (fn : List FnD) (xs : List XD) : AlM := (valE fn, xs.map XD.val, true)
def obsM (P : Program) (n : Nat) (fa : List Fa) (fn : List FnD) (xs : List XD) (ex : PySem.W.Frag → Bool) (g : Addr → Option Obj) : AlM := obsMK P fa fn xs ex (frG g (asM g n))
structure SaysM (P : Program) (fa : List Fa) (fn : List FnD) (xs : List XD) (ex : PySem.W.Frag → Bool) (K : PySem.W.Frag) : Prop where
  e : SaysE fa fn K
  i : ∀ d ∈ xs, ∃ fd, InitC P K d.qual d.st (ga K d.x) (iAd K d.x) fd
  more : ex K = true
theorem says_of {P : Program} {fa : List Fa} {fn : List FnD} {xs : List XD} {ex : PySem.W.Frag → Bool} {K : PySem.W.Frag} (e : obsMK P fa fn xs ex K = valM fn xs) : SaysM P fa fn xs ex K := by
  have e1 : obsE fa fn K = valE fn := congrArg (fun z : AlM => z.1) e
  have e2 : (xs.map fun d => inObs K d.x) = xs.map XD.val := congrArg (fun z : AlM => z.2.1) e
  have e3 : (xs.all (inB P K) && ex K) = true := congrArg (fun z : AlM => z.2.2) e
  obtain ⟨h1, h2⟩ := ba e3
  refine ⟨e1, fun d hd => ?_, h2⟩
  obtain ⟨i, hi⟩ := List.mem_iff_getElem?.mp hd
  have e4 : (xs.map fun d => inObs K d.x)[i]? = (xs.map XD.val)[i]? := by rw [e2]
  rw [List.getElem?_map, List.getElem?_map, hi] at e4
  exact in_ok (Option.some.inj e4) (List.all_eq_true.mp h1 d hd)
def hookM (P : Program) (n : Nat) (fa : List Fa) (fn : List FnD) (xs : List XD) (ex : PySem.W.Frag → Bool) : PySem.W.Hook where
  α := AlM
  obs := fun s => obsM P n fa fn xs ex s.heap.get?
  val := fun _ => valM fn xs
  says := fun _ h => ∃ K : PySem.W.Frag, K.In h ∧ SaysM P fa fn xs ex K
  of := fun _ _ e => ⟨_, frG_in, says_of e⟩
  keeps := fun _ _ _ ⟨K, hK, c⟩ k => ⟨K, PySem.W.Frag.In.keeps hK k, c⟩
theorem obsM_eq {P : Program} {n : Nat} {fa : List Fa} {fn : List FnD} {xs : List XD} {ex : PySem.W.Frag → Bool} {g : Addr → Option Obj} {s : Shared} (h : ∀ a, g a = s.heap.get? a) : obsM P n fa fn xs ex g = (hookM P n fa fn xs ex).obs s := by
  have e : g = s.heap.get? := funext h
  rw [e] <;> rfl
/-! ### the classes that a law catches and asks for -/
/-- own classes xs, none above another, each caught by base -/
def Excs (K : Fr) (mg : Mg) (xs : List Str) (base : Str) : Prop := ∃ ad : Str → Addr, mg base = some (.ref (ad base)) ∧ ∀ x ∈ xs, mg x = some (.ref (ad x)) ∧ ExcC K (ad x) ∧ XfC K (ad x) ∧ PySem.W.exmOne K (.ref (ad x)) (.ref (ad base)) = some true ∧
  ∀ y ∈ xs, PySem.W.kitOne K (.ref (ad x)) (.ref (ad y)) = some (decide (x = y))
def gloB (K : Fr) (x : Str) : Bool := eqO (PySem.W.nsIn K mainGlobals x) (some (some (.ref (ga K x))))
def excsB (xs : List Str) (base : Str) (K : Fr) : Bool := gloB K base && xs.all fun x => gloB K x && (xisB K (ga K x) && (decide (PySem.W.exmOne K (.ref (ga K x)) (.ref (ga K base)) = some true) && xs.all fun y => decide (PySem.W.kitOne K (.ref (ga K x)) (.ref (ga K y)) = some (decide (x = y)))))
theorem excs_ok {K : Fr} {mg : Mg} {h : Heap} (X : K.In h) (G : h.Ns mainGlobals mg) {xs : List Str} {base : Str} (c : excsB xs base K = true) : Excs K mg xs base := by
  obtain ⟨c1, c2⟩ := ba c
  refine ⟨ga K, PySem.W.mg_of X G (eqO_ok c1), fun x hx => ?_⟩
  obtain ⟨a1, a⟩ := ba (List.all_eq_true.mp c2 x hx)
  obtain ⟨a2, a⟩ := ba a
  obtain ⟨a3, a4⟩ := ba a
  exact ⟨PySem.W.mg_of X G (eqO_ok a1), (xis_ok a2).1, (xis_ok a2).2, of_decide_eq_true a3, fun y hy => of_decide_eq_true (List.all_eq_true.mp a4 y hy)⟩
end MiH
end

section
set_option maxHeartbeats 4000000
namespace Wk
open PySem PySem.Spec PyProof.Rows L2 NdefX Mi Sem
def top (i : Nat) : Stmt := PySem.Challenge.pw_claimfall_k21_calls_are_checked.main.body.getD i (.Pass ⟨0, 0, 0, 0⟩)
abbrev s_is_integer : Stmt := top 5
abbrev s_is_name : Stmt := top 9
abbrev s_index_of : Stmt := top 10
abbrev s_open_of : Stmt := top 12
abbrev s_are_integers : Stmt := top 13
abbrev s_fits : Stmt := top 14
abbrev s_sizes_of : Stmt := top 15
abbrev s_are_kept : Stmt := top 16
abbrev s_check_call : Stmt := top 17
abbrev s__law_cell : Stmt := top 19
abbrev s__law_digits : Stmt := top 20
abbrev s__law_draw : Stmt := top 21
abbrev s__law_pick : Stmt := top 22
abbrev s__law_ints : Stmt := top 23
abbrev s__law_arrays : Stmt := top 24
abbrev s__law_term : Stmt := top 25
abbrev s__law_condition : Stmt := top 26
abbrev s__law_args : Stmt := top 27
abbrev s__law_value : Stmt := top 28
abbrev s__law_body : Stmt := top 29
abbrev s__law_promises : Stmt := top 31
abbrev s__law_drawn : Stmt := top 30
abbrev s__law_known : Stmt := top 32
abbrev s__law_program : Stmt := top 33
abbrev s__law_index : Stmt := top 34
abbrev s__law_same : Stmt := top 35
abbrev s__law_keeps : Stmt := top 36
abbrev s__law_call : Stmt := top 37
abbrev s__law_whole : Stmt := top 38
abbrev s__law_row : Stmt := top 39
abbrev s__law_due : Stmt := top 40
abbrev s__law_told : Stmt := top 41
abbrev s__law_spoilt : Stmt := top 42
abbrev s__law_eight : Stmt := top 43
abbrev s_law : Stmt := top 44
abbrev i_BadEntry : Stmt := (clsB (top 2)).getD 0 (.Pass ⟨0, 0, 0, 0⟩)
structure Txt (P : Program) (K : Fr) (mg : Mg) : Prop where
  d_is_integer : Dx K mg "is_integer" s_is_integer
  d_is_name : Dx K mg "is_name" s_is_name
  d_index_of : Dx K mg "index_of" s_index_of
  d_open_of : Dx K mg "open_of" s_open_of
  d_are_integers : Dx K mg "are_integers" s_are_integers
  d_fits : Dx K mg "fits" s_fits
  d_sizes_of : Dx K mg "sizes_of" s_sizes_of
  d_are_kept : Dx K mg "are_kept" s_are_kept
  d_check_call : Dx K mg "check_call" s_check_call
  d__law_cell : Dx K mg "_law_cell" s__law_cell
  d__law_digits : Dx K mg "_law_digits" s__law_digits
  d__law_draw : Dx K mg "_law_draw" s__law_draw
  d__law_pick : Dx K mg "_law_pick" s__law_pick
  d__law_ints : Dx K mg "_law_ints" s__law_ints
  d__law_arrays : Dx K mg "_law_arrays" s__law_arrays
  d__law_term : Dx K mg "_law_term" s__law_term
  d__law_condition : Dx K mg "_law_condition" s__law_condition
  d__law_args : Dx K mg "_law_args" s__law_args
  d__law_value : Dx K mg "_law_value" s__law_value
  d__law_body : Dx K mg "_law_body" s__law_body
  d__law_promises : Dx K mg "_law_promises" s__law_promises
  d__law_drawn : Dx K mg "_law_drawn" s__law_drawn
  d__law_known : Dx K mg "_law_known" s__law_known
  d__law_program : Dx K mg "_law_program" s__law_program
  d__law_index : Dx K mg "_law_index" s__law_index
  d__law_same : Dx K mg "_law_same" s__law_same
  d__law_keeps : Dx K mg "_law_keeps" s__law_keeps
  d__law_call : Dx K mg "_law_call" s__law_call
  d__law_whole : Dx K mg "_law_whole" s__law_whole
  d__law_row : Dx K mg "_law_row" s__law_row
  d__law_due : Dx K mg "_law_due" s__law_due
  d__law_told : Dx K mg "_law_told" s__law_told
  d__law_spoilt : Dx K mg "_law_spoilt" s__law_spoilt
  d__law_eight : Dx K mg "_law_eight" s__law_eight
  d_law : Dx K mg "law" s_law
  n_bool : mg "bool" = none
  n_dict : mg "dict" = none
  n_int : mg "int" = none
  n_isinstance : mg "isinstance" = none
  n_len : mg "len" = none
  n_list : mg "list" = none
  n_range : mg "range" = none
  n_repr : mg "repr" = none
  n_sorted : mg "sorted" = none
  n_str : mg "str" = none
  n_super : mg "super" = none
  n_tuple : mg "tuple" = none
  i_MOST_LETTERS : ∃ t, mg "MOST_LETTERS" = some (.int 8 t)
  s_LETTERS : ∃ t, mg "LETTERS" = some (.str "abcdefghijklmnopqrstuvwxyz" t)
  x_BadState : X0T K mg "BadState"
  y_BadEntry : ∃ C f fd, mg "BadEntry" = some (.ref C) ∧ InitC P K "BadEntry.__init__" i_BadEntry C f fd ∧ PySem.W.findIn K (.ref C) "place" = some none
  hf : MiH.Excs K mg ["BadEntry", "BadState"] "ClaimError"
section
variable {P : Program} {w : World} {K : Fr} {mg : Mg} {base : Heap}
theorem x_BadEntry (T : Txt P K mg) : XcT P w K mg base "BadEntry" 1 ["place"] okV1 := by
  obtain ⟨C, f, fd, hm, IC, h0⟩ := T.y_BadEntry
  exact .of IC hm (fun _ _ _ _ _ _ _ us hl => match us, hl with | [_, _], _ => rfl) (init1 (k := 0) IC (nscope_by (by decide +kernel)) T.n_super rfl T.n_str rfl (ar := _) rfl rfl h0 rfl (fun _ => rfl))
theorem sc_is_integer : FnScope ["thing"] ["thing"] (defScope s_is_integer) := ⟨rfl, rfl, rfl, by decide +kernel, rfl, by decide +kernel, by decide +kernel⟩
theorem bd_is_integer : BindsOk "is_integer" s_is_integer ["thing"] := fun _ _ _ _ _ _ us hl => match us, hl with | [_], _ => rfl
theorem t_is_integer (T : Txt P K mg) : FnT P w K mg base "is_integer" 1 m_is_integer := .mk (k := 0) (N := ["thing"]) (ps := ["thing"]) T.d_is_integer sc_is_integer bd_is_integer <| fun f cdv A outer s H E hr => by
  have tk := takes_of (X := cxOf (L2.CX P w) P w K mg base ["thing"] "is_integer" (defScope s_is_integer) f cdv A outer s H E) (E := E) rfl rfl rfl rfl
  exact (mss_cons (ms_ret (me_and (me_isI (T := "int") (by rfl) T.n_isinstance (me_var 0) (by rfl) T.n_int) (me_one (me_not (me_isI (T := "bool") (by rfl) T.n_isinstance (me_var 0) (by rfl) T.n_bool)))))
  mss_nil)
theorem sc_is_name : FnScope ["thing", "sign"] ["thing"] (defScope s_is_name) := ⟨rfl, rfl, rfl, by decide +kernel, rfl, by decide +kernel, by decide +kernel⟩
theorem bd_is_name : BindsOk "is_name" s_is_name ["thing"] := fun _ _ _ _ _ _ us hl => match us, hl with | [_], _ => rfl
theorem t_is_name (T : Txt P K mg) : FnT P w K mg base "is_name" 1 m_is_name := .mk (k := 0) (N := ["thing", "sign"]) (ps := ["thing"]) T.d_is_name sc_is_name bd_is_name <| fun f cdv A outer s H E hr => by
  have tk := takes_of (X := cxOf (L2.CX P w) P w K mg base ["thing", "sign"] "is_name" (defScope s_is_name) f cdv A outer s H E) (E := E) rfl rfl rfl rfl
  exact (mss_cons (ms_if (mt_w (mw_or (mt_not (mt_val (me_isI (T := "str") (by rfl) T.n_isinstance (me_var 0) (by rfl) T.n_str))) (mw_or1 (mt_not (mt_chain or_le or_le me_int (me_callB cr_len (by rfl) T.n_len (ma_cons (me_var 0) ma_nil)) (me_gint (by rfl) T.i_MOST_LETTERS))))))
  (mss_cons (ms_ret me_bool)
  mss_nil)
  mss_nil)
  (mss_cons (ms_ret (me_cmp (or_eq hr) (me_gc (me_callB cr_len (by rfl) T.n_len (ma_cons (me_comp rfl sc_is_name.nd (mi_text (me_var 0)) (blkOk_by (own := [("sign", 1)]) (by kernel_rfl)) (fun _ _ _ _ _ => (mg_nm (pg_name (i := 1) sc_is_name.nd rfl (by first | exact Or.inl rfl | exact Or.inr rfl)))) (fun _ _ _ _ _ => (mts_one (mt_cmp (or_notIn hr) (me_var 1) (me_gstr (by rfl) T.s_LETTERS)))) (fun _ _ _ _ _ => (me_var 1))) ma_nil))) me_int))
  mss_nil))
theorem sc_index_of : FnScope ["program", "name", "names", "function"] ["program", "name"] (defScope s_index_of) := ⟨rfl, rfl, rfl, by decide +kernel, rfl, by decide +kernel, by decide +kernel⟩
theorem bd_index_of : BindsOk "index_of" s_index_of ["program", "name"] := fun _ _ _ _ _ _ us hl => match us, hl with | [_, _], _ => rfl
theorem t_index_of (T : Txt P K mg) : FnT P w K mg base "index_of" 1 m_index_of := .mk (k := 0) (N := ["program", "name", "names", "function"]) (ps := ["program", "name"]) T.d_index_of sc_index_of bd_index_of <| fun f cdv A outer s H E hr => by
  have tk := takes_of (X := cxOf (L2.CX P w) P w K mg base ["program", "name", "names", "function"] "index_of" (defScope s_index_of) f cdv A outer s H E) (E := E) rfl rfl rfl rfl
  exact (mss_cons (ms_setC 2 rfl sc_index_of.nd (mi_seq (me_ix (xr_ix hr) (me_var 0) me_int)) (blkOk_by (own := [("function", 3)]) (by kernel_rfl)) (fun _ _ _ _ _ => (mg_nm (pg_name (i := 3) sc_index_of.nd rfl (by first | exact Or.inl rfl | exact Or.inr rfl)))) (fun _ _ _ _ _ => mts_nil) (fun _ _ _ _ _ => (me_ix (xr_ix hr) (me_var 3) me_int)))
  (mss_cons (ms_ret (me_if (mt_cmp (or_in hr) (me_var 1) (me_var 2)) (me_index hr (me_var 2) (me_var 1)) (me_un or_neg me_int)))
  mss_nil))
theorem sc_open_of : FnScope ["program", "name", "found", "pair"] ["program", "name"] (defScope s_open_of) := ⟨rfl, rfl, rfl, by decide +kernel, rfl, by decide +kernel, by decide +kernel⟩
theorem bd_open_of : BindsOk "open_of" s_open_of ["program", "name"] := fun _ _ _ _ _ _ us hl => match us, hl with | [_, _], _ => rfl
theorem t_open_of (T : Txt P K mg) : FnT P w K mg base "open_of" 1 m_open_of := .mk (k := 0) (N := ["program", "name", "found", "pair"]) (ps := ["program", "name"]) T.d_open_of sc_open_of bd_open_of <| fun f cdv A outer s H E hr => by
  have tk := takes_of (X := cxOf (L2.CX P w) P w K mg base ["program", "name", "found", "pair"] "open_of" (defScope s_open_of) f cdv A outer s H E) (E := E) rfl rfl rfl rfl
  exact (mss_cons (ms_setC 2 rfl sc_open_of.nd (mi_seq (me_ix (xr_ix hr) (me_var 0) me_int)) (blkOk_by (own := [("pair", 3)]) (by kernel_rfl)) (fun _ _ _ _ _ => (mg_nm (pg_name (i := 3) sc_open_of.nd rfl (by first | exact Or.inl rfl | exact Or.inr rfl)))) (fun _ _ _ _ _ => (mts_one (mt_cmp (or_eq hr) (me_ix (xr_ix hr) (me_var 3) me_int) (me_var 1)))) (fun _ _ _ _ _ => (me_ix (xr_ix hr) (me_var 3) me_int)))
  (mss_cons (ms_ret (me_if (mt_cmp or_gt (me_callB cr_len (by rfl) T.n_len (ma_cons (me_var 2) ma_nil)) me_int) (me_ix (xr_ix hr) (me_var 2) me_int) me_none))
  mss_nil))
theorem sc_are_integers : FnScope ["thing", "item"] ["thing"] (defScope s_are_integers) := ⟨rfl, rfl, rfl, by decide +kernel, rfl, by decide +kernel, by decide +kernel⟩
theorem bd_are_integers : BindsOk "are_integers" s_are_integers ["thing"] := fun _ _ _ _ _ _ us hl => match us, hl with | [_], _ => rfl
theorem t_are_integers (T : Txt P K mg) : FnT P w K mg base "are_integers" 2 m_are_integers := .mk (k := 1) (N := ["thing", "item"]) (ps := ["thing"]) T.d_are_integers sc_are_integers bd_are_integers <| fun f cdv A outer s H E hr => by
  have tk := takes_of (X := cxOf (L2.CX P w) P w K mg base ["thing", "item"] "are_integers" (defScope s_are_integers) f cdv A outer s H E) (E := E) rfl rfl rfl rfl
  exact (mss_cons (ms_ret (me_and (me_isI (T := "tuple") (by rfl) T.n_isinstance (me_var 0) (by rfl) T.n_tuple) (me_one (me_cmp (or_eq hr) (me_gc (me_callB cr_len (by rfl) T.n_len (ma_cons (me_comp rfl sc_are_integers.nd (mi_seq (me_var 0)) (blkOk_by (own := [("item", 1)]) (by kernel_rfl)) (fun _ _ _ _ _ => (mg_nm (pg_name (i := 1) sc_are_integers.nd rfl (by first | exact Or.inl rfl | exact Or.inr rfl)))) (fun _ _ _ _ _ => (mts_one (mt_not (mt_val (me_fn (t_is_integer T) hr (by rfl) takes0 (ma_cons (me_var 1) ma_nil)))))) (fun _ _ _ _ _ => (me_var 1))) ma_nil))) me_int))))
  mss_nil)
theorem sc_fits : FnScope ["params", "args", "k"] ["params", "args"] (defScope s_fits) := ⟨rfl, rfl, rfl, by decide +kernel, rfl, by decide +kernel, by decide +kernel⟩
theorem bd_fits : BindsOk "fits" s_fits ["params", "args"] := fun _ _ _ _ _ _ us hl => match us, hl with | [_, _], _ => rfl
theorem t_fits (T : Txt P K mg) : FnT P w K mg base "fits" 3 m_fits := .mk (k := 2) (N := ["params", "args", "k"]) (ps := ["params", "args"]) T.d_fits sc_fits bd_fits <| fun f cdv A outer s H E hr => by
  have tk := takes_of (X := cxOf (L2.CX P w) P w K mg base ["params", "args", "k"] "fits" (defScope s_fits) f cdv A outer s H E) (E := E) rfl rfl rfl rfl
  exact (mss_cons (ms_if (mt_w (mw_or (mt_not (mt_val (me_isI (T := "tuple") (by rfl) T.n_isinstance (me_var 1) (by rfl) T.n_tuple))) (mw_or1 (mt_cmp (or_ne hr) (me_callB cr_len (by rfl) T.n_len (ma_cons (me_var 1) ma_nil)) (me_callB cr_len (by rfl) T.n_len (ma_cons (me_var 0) ma_nil))))))
  (mss_cons (ms_ret me_bool)
  mss_nil)
  mss_nil)
  (mss_cons (ms_for (passes_of rfl) rfl (mi_range1 (by rfl) T.n_range (me_callB cr_len (by rfl) T.n_len (ma_cons (me_var 0) ma_nil))) (mg_nm (pg_name (i := 2) sc_fits.nd rfl (by first | exact Or.inl rfl | exact Or.inr rfl)))
  (mss_cons (ms_if (mt_w (mw_and (mt_cmp (or_eq hr) (me_ix (xr_ix hr) (me_ix (xr_ix hr) (me_var 0) (me_var 2)) me_int) me_str) (mw_and1 (mt_not (mt_val (me_fn (t_is_integer T) hr (by rfl) tk (ma_cons (me_ix (xr_ix hr) (me_var 1) (me_var 2)) ma_nil)))))))
  (mss_cons (ms_ret me_bool)
  mss_nil)
  mss_nil)
  (mss_cons (ms_if (mt_w (mw_and (mt_cmp (or_eq hr) (me_ix (xr_ix hr) (me_ix (xr_ix hr) (me_var 0) (me_var 2)) me_int) me_str) (mw_and1 (mt_not (mt_val (me_fn (t_are_integers T) hr (by rfl) tk (ma_cons (me_ix (xr_ix hr) (me_var 1) (me_var 2)) ma_nil)))))))
  (mss_cons (ms_ret me_bool)
  mss_nil)
  mss_nil)
  mss_nil)))
  (mss_cons (ms_ret me_bool)
  mss_nil)))
theorem sc_sizes_of : FnScope ["args", "item"] ["args"] (defScope s_sizes_of) := ⟨rfl, rfl, rfl, by decide +kernel, rfl, by decide +kernel, by decide +kernel⟩
theorem bd_sizes_of : BindsOk "sizes_of" s_sizes_of ["args"] := fun _ _ _ _ _ _ us hl => match us, hl with | [_], _ => rfl
theorem t_sizes_of (T : Txt P K mg) : FnT P w K mg base "sizes_of" 1 m_sizes_of := .mk (k := 0) (N := ["args", "item"]) (ps := ["args"]) T.d_sizes_of sc_sizes_of bd_sizes_of <| fun f cdv A outer s H E hr => by
  have tk := takes_of (X := cxOf (L2.CX P w) P w K mg base ["args", "item"] "sizes_of" (defScope s_sizes_of) f cdv A outer s H E) (E := E) rfl rfl rfl rfl
  exact (mss_cons (ms_ret (me_op or_add (me_tup (ma_cons me_int ma_nil)) (me_gc (me_callTy cr_tuple (by rfl) T.n_tuple (ma_cons (me_comp rfl sc_sizes_of.nd (mi_seq (me_var 0)) (blkOk_by (own := [("item", 1)]) (by kernel_rfl)) (fun _ _ _ _ _ => (mg_nm (pg_name (i := 1) sc_sizes_of.nd rfl (by first | exact Or.inl rfl | exact Or.inr rfl)))) (fun _ _ _ _ _ => mts_nil) (fun _ _ _ _ _ => (me_if (mt_val (me_isI2 (A := "tuple") (B := "list") (by rfl) T.n_isinstance (me_var 1) (by rfl) T.n_tuple (by rfl) T.n_list)) (me_callB cr_len (by rfl) T.n_len (ma_cons (me_var 1) ma_nil)) (me_var 1)))) ma_nil)))))
  mss_nil)
theorem sc_are_kept : FnScope ["promises", "args", "sizes", "one"] ["promises", "args"] (defScope s_are_kept) := ⟨rfl, rfl, rfl, by decide +kernel, rfl, by decide +kernel, by decide +kernel⟩
theorem bd_are_kept : BindsOk "are_kept" s_are_kept ["promises", "args"] := fun _ _ _ _ _ _ us hl => match us, hl with | [_, _], _ => rfl
theorem t_are_kept (T : Txt P K mg) : FnT P w K mg base "are_kept" 2 m_are_kept := .mk (k := 1) (N := ["promises", "args", "sizes", "one"]) (ps := ["promises", "args"]) T.d_are_kept sc_are_kept bd_are_kept <| fun f cdv A outer s H E hr => by
  have tk := takes_of (X := cxOf (L2.CX P w) P w K mg base ["promises", "args", "sizes", "one"] "are_kept" (defScope s_are_kept) f cdv A outer s H E) (E := E) rfl rfl rfl rfl
  exact (mss_cons (ms_set 2 sc_are_kept.nd (me_fn (t_sizes_of T) hr (by rfl) tk (ma_cons (me_var 1) ma_nil)))
  (mss_cons (ms_ret (me_cmp (or_eq hr) (me_gc (me_callB cr_len (by rfl) T.n_len (ma_cons (me_comp rfl sc_are_kept.nd (mi_seq (me_var 0)) (blkOk_by (own := [("one", 3)]) (by kernel_rfl)) (fun _ _ _ _ _ => (mg_nm (pg_name (i := 3) sc_are_kept.nd rfl (by first | exact Or.inl rfl | exact Or.inr rfl)))) (fun _ _ _ _ _ => (mts_one (mt_cmp or_gt (me_ix (xr_ix hr) (me_var 2) (me_ix (xr_ix hr) (me_var 3) me_int)) (me_op or_add (me_ix (xr_ix hr) (me_var 2) (me_ix (xr_ix hr) (me_var 3) me_int)) (me_ix (xr_ix hr) (me_var 3) me_int))))) (fun _ _ _ _ _ => (me_var 3))) ma_nil))) me_int))
  mss_nil))
theorem sc_check_call : FnScope ["program", "thing"] ["program", "thing"] (defScope s_check_call) := ⟨rfl, rfl, rfl, by decide +kernel, rfl, by decide +kernel, by decide +kernel⟩
theorem bd_check_call : BindsOk "check_call" s_check_call ["program", "thing"] := fun _ _ _ _ _ _ us hl => match us, hl with | [_, _], _ => rfl
theorem t_check_call (T : Txt P K mg) : FnT P w K mg base "check_call" 4 m_check_call := .mk (k := 3) (N := ["program", "thing"]) (ps := ["program", "thing"]) T.d_check_call sc_check_call bd_check_call <| fun f cdv A outer s H E hr => by
  have tk := takes_of (X := cxOf (L2.CX P w) P w K mg base ["program", "thing"] "check_call" (defScope s_check_call) f cdv A outer s H E) (E := E) rfl rfl rfl rfl
  exact (mss_cons (ms_if (mt_w (mw_or (mt_not (mt_val (me_isI (T := "tuple") (by rfl) T.n_isinstance (me_var 1) (by rfl) T.n_tuple))) (mw_or (mt_cmp (or_ne hr) (me_callB cr_len (by rfl) T.n_len (ma_cons (me_var 1) ma_nil)) me_int) (mw_or1 (mt_cmp (or_ne hr) (me_ix (xr_ix hr) (me_var 1) me_int) me_str)))))
  (mss_cons (ms_raise (by rfl) tk (mk_by1 (x_BadEntry T) hr (by rfl) (ma_cons me_int ma_nil)))
  mss_nil)
  mss_nil)
  (mss_cons (ms_if (mt_w (mw_or (mt_not (mt_val (me_fn (t_is_name T) hr (by rfl) tk (ma_cons (me_ix (xr_ix hr) (me_var 1) me_int) ma_nil)))) (mw_or1 (mt_cmp or_isN (me_fn (t_open_of T) hr (by rfl) tk (ma_cons (me_var 0) (ma_cons (me_ix (xr_ix hr) (me_var 1) me_int) ma_nil))) me_none))))
  (mss_cons (ms_raise (by rfl) tk (mk_by1 (x_BadEntry T) hr (by rfl) (ma_cons me_int ma_nil)))
  mss_nil)
  mss_nil)
  (mss_cons (ms_if (mt_not (mt_val (me_fn (t_fits T) hr (by rfl) tk (ma_cons (me_ix (xr_ix hr) (me_ix (xr_ix hr) (me_ix (xr_ix hr) (me_var 0) me_int) (me_fn (t_index_of T) hr (by rfl) tk (ma_cons (me_var 0) (ma_cons (me_ix (xr_ix hr) (me_var 1) me_int) ma_nil)))) me_int) (ma_cons (me_ix (xr_ix hr) (me_var 1) me_int) ma_nil)))))
  (mss_cons (ms_raise (by rfl) tk (mk_by1 (x_BadEntry T) hr (by rfl) (ma_cons me_int ma_nil)))
  mss_nil)
  mss_nil)
  (mss_cons (ms_if (mt_not (mt_val (me_fn (t_are_integers T) hr (by rfl) tk (ma_cons (me_ix (xr_ix hr) (me_var 1) me_int) ma_nil))))
  (mss_cons (ms_raise (by rfl) tk (mk_by1 (x_BadEntry T) hr (by rfl) (ma_cons me_int ma_nil)))
  mss_nil)
  mss_nil)
  (mss_cons (ms_if (mt_not (mt_val (me_fn (t_are_kept T) hr (by rfl) tk (ma_cons (me_fn (t_open_of T) hr (by rfl) tk (ma_cons (me_var 0) (ma_cons (me_ix (xr_ix hr) (me_var 1) me_int) ma_nil))) (ma_cons (me_ix (xr_ix hr) (me_var 1) me_int) ma_nil)))))
  (mss_cons (ms_raise (by rfl) tk (mk_by0 T.x_BadState (by rfl)))
  mss_nil)
  mss_nil)
  mss_nil)))))
theorem sc__law_cell : FnScope ["script", "k"] ["script", "k"] (defScope s__law_cell) := ⟨rfl, rfl, rfl, by decide +kernel, rfl, by decide +kernel, by decide +kernel⟩
theorem bd__law_cell : BindsOk "_law_cell" s__law_cell ["script", "k"] := fun _ _ _ _ _ _ us hl => match us, hl with | [_, _], _ => rfl
theorem t__law_cell (T : Txt P K mg) : FnT P w K mg base "_law_cell" 1 m__law_cell := .mk (k := 0) (N := ["script", "k"]) (ps := ["script", "k"]) T.d__law_cell sc__law_cell bd__law_cell <| fun f cdv A outer s H E hr => by
  have tk := takes_of (X := cxOf (L2.CX P w) P w K mg base ["script", "k"] "_law_cell" (defScope s__law_cell) f cdv A outer s H E) (E := E) rfl rfl rfl rfl
  exact (mss_cons (ms_if (mt_cmp or_lt (me_var 1) (me_callB cr_len (by rfl) T.n_len (ma_cons (me_var 0) ma_nil)))
  (mss_cons (ms_ret (me_ix (xr_ix hr) (me_var 0) (me_var 1)))
  mss_nil)
  mss_nil)
  (mss_cons (ms_ret me_int)
  mss_nil))
theorem sc__law_digits : FnScope ["script", "first", "last", "digits", "k", "cell", "turn", "seed"] ["script", "first", "last"] (defScope s__law_digits) := ⟨rfl, rfl, rfl, by decide +kernel, rfl, by decide +kernel, by decide +kernel⟩
theorem bd__law_digits : BindsOk "_law_digits" s__law_digits ["script", "first", "last"] := fun _ _ _ _ _ _ us hl => match us, hl with | [_, _, _], _ => rfl
theorem t__law_digits (T : Txt P K mg) : FnT P w K mg base "_law_digits" 2 m__law_digits := .mk (k := 1) (N := ["script", "first", "last", "digits", "k", "cell", "turn", "seed"]) (ps := ["script", "first", "last"]) T.d__law_digits sc__law_digits bd__law_digits <| fun f cdv A outer s H E hr => by
  have tk := takes_of (X := cxOf (L2.CX P w) P w K mg base ["script", "first", "last", "digits", "k", "cell", "turn", "seed"] "_law_digits" (defScope s__law_digits) f cdv A outer s H E) (E := E) rfl rfl rfl rfl
  exact (mss_cons (ms_set 3 sc__law_digits.nd (me_lst ma_nil))
  (mss_cons (ms_for (passes_of rfl) rfl (mi_range2 (by rfl) T.n_range (me_var 1) (me_var 2)) (mg_nm (pg_name (i := 4) sc__law_digits.nd rfl (by first | exact Or.inl rfl | exact Or.inr rfl)))
  (mss_cons (ms_set 5 sc__law_digits.nd (me_fn (t__law_cell T) hr (by rfl) tk (ma_cons (me_var 0) (ma_cons (me_var 4) ma_nil))))
  (mss_cons (ms_if (mt_cmp or_lt (me_var 5) me_int)
  (mss_cons (ms_set 5 sc__law_digits.nd (me_op or_sub me_int (me_op or_mul me_int (me_var 5))))
  mss_nil)
  mss_nil)
  (mss_cons (ms_if (mt_cmp or_ge (me_var 5) (me_op or_pow me_int me_int))
  (mss_cons (ms_for (passes_of rfl) rfl (mi_range1 (by rfl) T.n_range me_int) (mg_nm (pg_name (i := 6) sc__law_digits.nd rfl (by first | exact Or.inl rfl | exact Or.inr rfl)))
  (mss_cons (ms_if (mt_cmp or_gt (me_var 5) me_int)
  (mss_cons (ms_expr (me_append (me_var 3) (me_op or_mod (me_callTy cr_int (by rfl) T.n_int (ma_cons (me_var 5) ma_nil)) me_int)))
  (mss_cons (ms_set 5 sc__law_digits.nd (me_op or_floorDiv (me_var 5) me_int))
  mss_nil))
  mss_nil)
  mss_nil))
  mss_nil)
  (mss_cons (ms_set 7 sc__law_digits.nd (me_op or_mod (me_callTy cr_int (by rfl) T.n_int (ma_cons (me_op or_add (me_op or_add (me_op or_mul (me_var 5) me_int) (me_op or_mul (me_var 4) me_int)) me_int) ma_nil)) me_int))
  (mss_cons (ms_for (passes_of rfl) rfl (mi_range1 (by rfl) T.n_range me_int) (mg_nm (pg_name (i := 6) sc__law_digits.nd rfl (by first | exact Or.inl rfl | exact Or.inr rfl)))
  (mss_cons (ms_set 7 sc__law_digits.nd (me_op or_mod (me_callTy cr_int (by rfl) T.n_int (ma_cons (me_op or_add (me_op or_add (me_op or_mul (me_var 7) me_int) (me_op or_mul me_int (me_var 6))) me_int) ma_nil)) me_int))
  (mss_cons (ms_expr (me_append (me_var 3) (me_op or_mod (me_callTy cr_int (by rfl) T.n_int (ma_cons (me_op or_floorDiv (me_var 7) me_int) ma_nil)) me_int)))
  mss_nil)))
  mss_nil)))
  mss_nil))))
  (mss_cons (ms_ret (me_var 3))
  mss_nil)))
theorem sc__law_draw : FnScope ["box", "many", "at"] ["box", "many"] (defScope s__law_draw) := ⟨rfl, rfl, rfl, by decide +kernel, rfl, by decide +kernel, by decide +kernel⟩
theorem bd__law_draw : BindsOk "_law_draw" s__law_draw ["box", "many"] := fun _ _ _ _ _ _ us hl => match us, hl with | [_, _], _ => rfl
theorem t__law_draw (T : Txt P K mg) : FnT P w K mg base "_law_draw" 1 m__law_draw := .mk (k := 0) (N := ["box", "many", "at"]) (ps := ["box", "many"]) T.d__law_draw sc__law_draw bd__law_draw <| fun f cdv A outer s H E hr => by
  have tk := takes_of (X := cxOf (L2.CX P w) P w K mg base ["box", "many", "at"] "_law_draw" (defScope s__law_draw) f cdv A outer s H E) (E := E) rfl rfl rfl rfl
  exact (mss_cons (ms_set 2 sc__law_draw.nd (me_ix (xr_ix hr) (me_var 0) me_int))
  (mss_cons (ms_sub (me_op or_add (me_var 2) me_int) (me_var 0) me_int (ps_ix hr))
  (mss_cons (ms_if (mt_cmp or_lt (me_var 2) (me_callB cr_len (by rfl) T.n_len (ma_cons (me_ix (xr_ix hr) (me_var 0) me_int) ma_nil)))
  (mss_cons (ms_ret (me_op or_mod (me_callTy cr_int (by rfl) T.n_int (ma_cons (me_ix (xr_ix hr) (me_ix (xr_ix hr) (me_var 0) me_int) (me_var 2)) ma_nil)) (me_var 1)))
  mss_nil)
  mss_nil)
  (mss_cons (ms_ret me_int)
  mss_nil))))
theorem sc__law_pick : FnScope ["box", "things"] ["box", "things"] (defScope s__law_pick) := ⟨rfl, rfl, rfl, by decide +kernel, rfl, by decide +kernel, by decide +kernel⟩
theorem bd__law_pick : BindsOk "_law_pick" s__law_pick ["box", "things"] := fun _ _ _ _ _ _ us hl => match us, hl with | [_, _], _ => rfl
theorem t__law_pick (T : Txt P K mg) : FnT P w K mg base "_law_pick" 2 m__law_pick := .mk (k := 1) (N := ["box", "things"]) (ps := ["box", "things"]) T.d__law_pick sc__law_pick bd__law_pick <| fun f cdv A outer s H E hr => by
  have tk := takes_of (X := cxOf (L2.CX P w) P w K mg base ["box", "things"] "_law_pick" (defScope s__law_pick) f cdv A outer s H E) (E := E) rfl rfl rfl rfl
  exact (mss_cons (ms_ret (me_ix (xr_ix hr) (me_var 1) (me_op or_mod (me_callTy cr_int (by rfl) T.n_int (ma_cons (me_fn (t__law_draw T) hr (by rfl) tk (ma_cons (me_var 0) (ma_cons me_int ma_nil))) ma_nil)) (me_callB cr_len (by rfl) T.n_len (ma_cons (me_var 1) ma_nil)))))
  mss_nil)
theorem sc__law_ints : FnScope ["known", "name"] ["known"] (defScope s__law_ints) := ⟨rfl, rfl, rfl, by decide +kernel, rfl, by decide +kernel, by decide +kernel⟩
theorem bd__law_ints : BindsOk "_law_ints" s__law_ints ["known"] := fun _ _ _ _ _ _ us hl => match us, hl with | [_], _ => rfl
theorem t__law_ints (T : Txt P K mg) : FnT P w K mg base "_law_ints" 1 m__law_ints := .mk (k := 0) (N := ["known", "name"]) (ps := ["known"]) T.d__law_ints sc__law_ints bd__law_ints <| fun f cdv A outer s H E hr => by
  have tk := takes_of (X := cxOf (L2.CX P w) P w K mg base ["known", "name"] "_law_ints" (defScope s__law_ints) f cdv A outer s H E) (E := E) rfl rfl rfl rfl
  exact (mss_cons (ms_ret (me_comp rfl sc__law_ints.nd (mi_seq (me_callB (cr_sort2 (by rfl)) (by rfl) T.n_sorted (ma_cons (me_var 0) ma_nil))) (blkOk_by (own := [("name", 1)]) (by kernel_rfl)) (fun _ _ _ _ _ => (mg_nm (pg_name (i := 1) sc__law_ints.nd rfl (by first | exact Or.inl rfl | exact Or.inr rfl)))) (fun _ _ _ _ _ => (mts_one (mt_cmp (or_eq hr) (me_ix (xr_ix hr) (me_var 0) (me_var 1)) me_str))) (fun _ _ _ _ _ => (me_var 1))))
  mss_nil)
theorem sc__law_arrays : FnScope ["known", "name"] ["known"] (defScope s__law_arrays) := ⟨rfl, rfl, rfl, by decide +kernel, rfl, by decide +kernel, by decide +kernel⟩
theorem bd__law_arrays : BindsOk "_law_arrays" s__law_arrays ["known"] := fun _ _ _ _ _ _ us hl => match us, hl with | [_], _ => rfl
theorem t__law_arrays (T : Txt P K mg) : FnT P w K mg base "_law_arrays" 1 m__law_arrays := .mk (k := 0) (N := ["known", "name"]) (ps := ["known"]) T.d__law_arrays sc__law_arrays bd__law_arrays <| fun f cdv A outer s H E hr => by
  have tk := takes_of (X := cxOf (L2.CX P w) P w K mg base ["known", "name"] "_law_arrays" (defScope s__law_arrays) f cdv A outer s H E) (E := E) rfl rfl rfl rfl
  exact (mss_cons (ms_ret (me_comp rfl sc__law_arrays.nd (mi_seq (me_callB (cr_sort2 (by rfl)) (by rfl) T.n_sorted (ma_cons (me_var 0) ma_nil))) (blkOk_by (own := [("name", 1)]) (by kernel_rfl)) (fun _ _ _ _ _ => (mg_nm (pg_name (i := 1) sc__law_arrays.nd rfl (by first | exact Or.inl rfl | exact Or.inr rfl)))) (fun _ _ _ _ _ => (mts_one (mt_cmp (or_eq hr) (me_ix (xr_ix hr) (me_var 0) (me_var 1)) me_str))) (fun _ _ _ _ _ => (me_var 1))))
  mss_nil)
theorem sc__law_term : FnScope ["box", "known", "kind"] ["box", "known"] (defScope s__law_term) := ⟨rfl, rfl, rfl, by decide +kernel, rfl, by decide +kernel, by decide +kernel⟩
theorem bd__law_term : BindsOk "_law_term" s__law_term ["box", "known"] := fun _ _ _ _ _ _ us hl => match us, hl with | [_, _], _ => rfl
theorem t__law_term (T : Txt P K mg) : FnT P w K mg base "_law_term" 3 m__law_term := .mk (k := 2) (N := ["box", "known", "kind"]) (ps := ["box", "known"]) T.d__law_term sc__law_term bd__law_term <| fun f cdv A outer s H E hr => by
  have tk := takes_of (X := cxOf (L2.CX P w) P w K mg base ["box", "known", "kind"] "_law_term" (defScope s__law_term) f cdv A outer s H E) (E := E) rfl rfl rfl rfl
  exact (mss_cons (ms_set 2 sc__law_term.nd (me_fn (t__law_draw T) hr (by rfl) tk (ma_cons (me_var 0) (ma_cons me_int ma_nil))))
  (mss_cons (ms_if (mt_w (mw_and (mt_cmp or_lt (me_var 2) me_int) (mw_and1 (mt_gc (mt_cmp (or_ne hr) (me_fn (t__law_ints T) hr (by rfl) tk (ma_cons (me_var 1) ma_nil)) (me_lst ma_nil))))))
  (mss_cons (ms_ret (me_tup (ma_cons me_str (ma_cons (me_fn (t__law_pick T) hr (by rfl) tk (ma_cons (me_var 0) (ma_cons (me_fn (t__law_ints T) hr (by rfl) tk (ma_cons (me_var 1) ma_nil)) ma_nil))) (ma_cons (me_op or_sub (me_fn (t__law_draw T) hr (by rfl) tk (ma_cons (me_var 0) (ma_cons me_int ma_nil))) me_int) ma_nil)))))
  mss_nil)
  mss_nil)
  (mss_cons (ms_if (mt_w (mw_and (mt_cmp (or_eq hr) (me_var 2) me_int) (mw_and1 (mt_gc (mt_cmp (or_ne hr) (me_fn (t__law_arrays T) hr (by rfl) tk (ma_cons (me_var 1) ma_nil)) (me_lst ma_nil))))))
  (mss_cons (ms_ret (me_tup (ma_cons me_str (ma_cons (me_fn (t__law_pick T) hr (by rfl) tk (ma_cons (me_var 0) (ma_cons (me_fn (t__law_arrays T) hr (by rfl) tk (ma_cons (me_var 1) ma_nil)) ma_nil))) (ma_cons (me_op or_sub (me_fn (t__law_draw T) hr (by rfl) tk (ma_cons (me_var 0) (ma_cons me_int ma_nil))) me_int) ma_nil)))))
  mss_nil)
  mss_nil)
  (mss_cons (ms_ret (me_tup (ma_cons me_str (ma_cons (me_op or_sub (me_fn (t__law_draw T) hr (by rfl) tk (ma_cons (me_var 0) (ma_cons me_int ma_nil))) me_int) ma_nil))))
  mss_nil))))
theorem sc__law_condition : FnScope ["box", "known", "word", "one"] ["box", "known"] (defScope s__law_condition) := ⟨rfl, rfl, rfl, by decide +kernel, rfl, by decide +kernel, by decide +kernel⟩
theorem bd__law_condition : BindsOk "_law_condition" s__law_condition ["box", "known"] := fun _ _ _ _ _ _ us hl => match us, hl with | [_, _], _ => rfl
theorem t__law_condition (T : Txt P K mg) : FnT P w K mg base "_law_condition" 4 m__law_condition := .mk (k := 3) (N := ["box", "known", "word", "one"]) (ps := ["box", "known"]) T.d__law_condition sc__law_condition bd__law_condition <| fun f cdv A outer s H E hr => by
  have tk := takes_of (X := cxOf (L2.CX P w) P w K mg base ["box", "known", "word", "one"] "_law_condition" (defScope s__law_condition) f cdv A outer s H E) (E := E) rfl rfl rfl rfl
  exact (mss_cons (ms_set 2 sc__law_condition.nd (me_gc (me_ix (xr_ix hr) (me_lst (ma_cons me_str (ma_cons me_str (ma_cons me_str ma_nil)))) (me_fn (t__law_draw T) hr (by rfl) tk (ma_cons (me_var 0) (ma_cons me_int ma_nil))))))
  (mss_cons (ms_set 3 sc__law_condition.nd (me_fn (t__law_term T) hr (by rfl) tk (ma_cons (me_var 0) (ma_cons (me_var 1) ma_nil))))
  (mss_cons (ms_ret (me_tup (ma_cons (me_var 2) (ma_cons (me_var 3) (ma_cons (me_fn (t__law_term T) hr (by rfl) tk (ma_cons (me_var 0) (ma_cons (me_var 1) ma_nil))) ma_nil)))))
  mss_nil)))
theorem sc__law_args : FnScope ["box", "params", "known", "found", "name", "kind"] ["box", "params", "known"] (defScope s__law_args) := ⟨rfl, rfl, rfl, by decide +kernel, rfl, by decide +kernel, by decide +kernel⟩
theorem bd__law_args : BindsOk "_law_args" s__law_args ["box", "params", "known"] := fun _ _ _ _ _ _ us hl => match us, hl with | [_, _, _], _ => rfl
theorem t__law_args (T : Txt P K mg) : FnT P w K mg base "_law_args" 4 m__law_args := .mk (k := 3) (N := ["box", "params", "known", "found", "name", "kind"]) (ps := ["box", "params", "known"]) T.d__law_args sc__law_args bd__law_args <| fun f cdv A outer s H E hr => by
  have tk := takes_of (X := cxOf (L2.CX P w) P w K mg base ["box", "params", "known", "found", "name", "kind"] "_law_args" (defScope s__law_args) f cdv A outer s H E) (E := E) rfl rfl rfl rfl
  exact (mss_cons (ms_set 3 sc__law_args.nd (me_tup ma_nil))
  (mss_cons (ms_for (passes_of rfl) rfl (mi_seq (me_var 1)) (mg_tup rfl (pgs_cons' (pg_name (i := 4) sc__law_args.nd rfl (by first | exact Or.inl rfl | exact Or.inr rfl)) (pgs_cons' (pg_name (i := 5) sc__law_args.nd rfl (by first | exact Or.inl rfl | exact Or.inr rfl)) pgs_nil')))
  (mss_cons (ms_if (mt_cmp (or_eq hr) (me_var 5) me_str)
  (mss_cons (ms_set 3 sc__law_args.nd (me_op or_add (me_var 3) (me_tup (ma_cons (me_fn (t__law_term T) hr (by rfl) tk (ma_cons (me_var 0) (ma_cons (me_var 2) ma_nil))) ma_nil))))
  mss_nil)
  (mss_cons (ms_if (mt_gc (mt_cmp (or_eq hr) (me_fn (t__law_arrays T) hr (by rfl) tk (ma_cons (me_var 2) ma_nil)) (me_lst ma_nil)))
  (mss_cons (ms_ret me_none)
  mss_nil)
  (mss_cons (ms_set 3 sc__law_args.nd (me_op or_add (me_var 3) (me_tup (ma_cons (me_tup (ma_cons me_str (ma_cons (me_fn (t__law_pick T) hr (by rfl) tk (ma_cons (me_var 0) (ma_cons (me_fn (t__law_arrays T) hr (by rfl) tk (ma_cons (me_var 2) ma_nil)) ma_nil))) ma_nil))) ma_nil))))
  mss_nil))
  mss_nil))
  mss_nil))
  (mss_cons (ms_ret (me_var 3))
  mss_nil)))
theorem sc__law_value : FnScope ["box", "heads", "known", "kind", "name", "params", "args", "one"] ["box", "heads", "known"] (defScope s__law_value) := ⟨rfl, rfl, rfl, by decide +kernel, rfl, by decide +kernel, by decide +kernel⟩
theorem bd__law_value : BindsOk "_law_value" s__law_value ["box", "heads", "known"] := fun _ _ _ _ _ _ us hl => match us, hl with | [_, _, _], _ => rfl
theorem t__law_value (T : Txt P K mg) : FnT P w K mg base "_law_value" 5 m__law_value := .mk (k := 4) (N := ["box", "heads", "known", "kind", "name", "params", "args", "one"]) (ps := ["box", "heads", "known"]) T.d__law_value sc__law_value bd__law_value <| fun f cdv A outer s H E hr => by
  have tk := takes_of (X := cxOf (L2.CX P w) P w K mg base ["box", "heads", "known", "kind", "name", "params", "args", "one"] "_law_value" (defScope s__law_value) f cdv A outer s H E) (E := E) rfl rfl rfl rfl
  exact (mss_cons (ms_set 3 sc__law_value.nd (me_fn (t__law_draw T) hr (by rfl) tk (ma_cons (me_var 0) (ma_cons me_int ma_nil))))
  (mss_cons (ms_if (mt_w (mw_and (mt_cmp or_lt (me_var 3) me_int) (mw_and1 (mt_gc (mt_cmp (or_ne hr) (me_fn (t__law_arrays T) hr (by rfl) tk (ma_cons (me_var 2) ma_nil)) (me_lst ma_nil))))))
  (mss_cons (ms_ret (me_tup (ma_cons me_str (ma_cons (me_fn (t__law_pick T) hr (by rfl) tk (ma_cons (me_var 0) (ma_cons (me_fn (t__law_arrays T) hr (by rfl) tk (ma_cons (me_var 2) ma_nil)) ma_nil))) (ma_cons (me_fn (t__law_term T) hr (by rfl) tk (ma_cons (me_var 0) (ma_cons (me_var 2) ma_nil))) ma_nil)))))
  mss_nil)
  mss_nil)
  (mss_cons (ms_if (mt_cmp or_lt (me_var 3) me_int)
  (mss_cons (ms_asg (me_fn (t__law_pick T) hr (by rfl) tk (ma_cons (me_var 0) (ma_cons (me_var 1) ma_nil))) (mg_tup rfl (pgs_cons' (pg_name (i := 4) sc__law_value.nd rfl (by first | exact Or.inl rfl | exact Or.inr rfl)) (pgs_cons' (pg_name (i := 5) sc__law_value.nd rfl (by first | exact Or.inl rfl | exact Or.inr rfl)) pgs_nil'))))
  (mss_cons (ms_set 6 sc__law_value.nd (me_fn (t__law_args T) hr (by rfl) tk (ma_cons (me_var 0) (ma_cons (me_var 5) (ma_cons (me_var 2) ma_nil)))))
  (mss_cons (ms_if (mt_cmp or_notN (me_var 6) me_none)
  (mss_cons (ms_ret (me_tup (ma_cons me_str (ma_cons (me_var 4) (ma_cons (me_var 6) ma_nil)))))
  mss_nil)
  mss_nil)
  mss_nil)))
  mss_nil)
  (mss_cons (ms_if (mt_cmp (or_eq hr) (me_var 3) me_int)
  (mss_cons (ms_ret (me_tup (ma_cons me_str ma_nil)))
  mss_nil)
  mss_nil)
  (mss_cons (ms_if (mt_cmp (or_eq hr) (me_var 3) me_int)
  (mss_cons (ms_set 7 sc__law_value.nd (me_fn (t__law_term T) hr (by rfl) tk (ma_cons (me_var 0) (ma_cons (me_var 2) ma_nil))))
  (mss_cons (ms_ret (me_tup (ma_cons me_str (ma_cons (me_var 7) (ma_cons (me_fn (t__law_term T) hr (by rfl) tk (ma_cons (me_var 0) (ma_cons (me_var 2) ma_nil))) ma_nil)))))
  mss_nil))
  mss_nil)
  (mss_cons (ms_ret (me_fn (t__law_term T) hr (by rfl) tk (ma_cons (me_var 0) (ma_cons (me_var 2) ma_nil))))
  mss_nil))))))
theorem sc__law_body : FnScope ["box", "heads", "known", "depth", "kind", "condition", "first", "array", "one", "other", "value", "name", "more"] ["box", "heads", "known", "depth"] (defScope s__law_body) := ⟨rfl, rfl, rfl, by decide +kernel, rfl, by decide +kernel, by decide +kernel⟩
theorem bd__law_body : BindsOk "_law_body" s__law_body ["box", "heads", "known", "depth"] := fun _ _ _ _ _ _ us hl => match us, hl with | [_, _, _, _], _ => rfl
theorem t__law_body (T : Txt P K mg) : ∀ q : Nat, FnT P w K mg base "_law_body" (5 + q) (m__law_body q)
  | 0 => .bad T.d__law_body bd__law_body
  | q + 1 => by
    have R := t__law_body T q
    exact .mk (k := 5 + q) (N := ["box", "heads", "known", "depth", "kind", "condition", "first", "array", "one", "other", "value", "name", "more"]) (ps := ["box", "heads", "known", "depth"]) T.d__law_body sc__law_body bd__law_body <| fun f cdv A outer s H E hr => by
      have tk := takes_of (X := cxOf (L2.CX P w) P w K mg base ["box", "heads", "known", "depth", "kind", "condition", "first", "array", "one", "other", "value", "name", "more"] "_law_body" (defScope s__law_body) f cdv A outer s H E) (E := E) rfl rfl rfl rfl
      exact (mss_cons (ms_set 4 sc__law_body.nd (me_fn (t__law_draw T) hr (by rfl) tk (ma_cons (me_var 0) (ma_cons me_int ma_nil))))
        (mss_cons (ms_if (mt_w (mw_or (mt_cmp (or_eq hr) (me_var 3) me_int) (mw_or1 (mt_cmp or_lt (me_var 4) me_int))))
        (mss_cons (ms_if (mt_cmp (or_eq hr) (me_fn (t__law_draw T) hr (by rfl) tk (ma_cons (me_var 0) (ma_cons me_int ma_nil))) me_int)
        (mss_cons (ms_ret (me_tup (ma_cons me_str ma_nil)))
        mss_nil)
        mss_nil)
        (mss_cons (ms_ret (me_tup (ma_cons me_str (ma_cons (me_fn (t__law_term T) hr (by rfl) tk (ma_cons (me_var 0) (ma_cons (me_var 2) ma_nil))) ma_nil))))
        mss_nil))
        mss_nil)
        (mss_cons (ms_if (mt_cmp or_lt (me_var 4) me_int)
        (mss_cons (ms_set 5 sc__law_body.nd (me_fn (t__law_condition T) hr (by rfl) tk (ma_cons (me_var 0) (ma_cons (me_var 2) ma_nil))))
        (mss_cons (ms_set 6 sc__law_body.nd (me_fn R hr (by rfl) tk (ma_cons (me_var 0) (ma_cons (me_var 1) (ma_cons (me_var 2) (ma_cons (me_op or_sub (me_var 3) me_int) ma_nil))))))
        (mss_cons (ms_ret (me_tup (ma_cons me_str (ma_cons (me_var 5) (ma_cons (me_var 6) (ma_cons (me_fn R hr (by rfl) tk (ma_cons (me_var 0) (ma_cons (me_var 1) (ma_cons (me_var 2) (ma_cons (me_op or_sub (me_var 3) me_int) ma_nil))))) ma_nil))))))
        mss_nil)))
        mss_nil)
        (mss_cons (ms_if (mt_cmp (or_eq hr) (me_var 4) me_int)
        (mss_cons (ms_set 5 sc__law_body.nd (me_fn (t__law_condition T) hr (by rfl) tk (ma_cons (me_var 0) (ma_cons (me_var 2) ma_nil))))
        (mss_cons (ms_ret (me_tup (ma_cons me_str (ma_cons (me_var 5) (ma_cons (me_fn R hr (by rfl) tk (ma_cons (me_var 0) (ma_cons (me_var 1) (ma_cons (me_var 2) (ma_cons (me_op or_sub (me_var 3) me_int) ma_nil))))) ma_nil)))))
        mss_nil))
        mss_nil)
        (mss_cons (ms_if (mt_w (mw_and (mt_cmp (or_eq hr) (me_var 4) me_int) (mw_and1 (mt_gc (mt_cmp (or_ne hr) (me_fn (t__law_arrays T) hr (by rfl) tk (ma_cons (me_var 2) ma_nil)) (me_lst ma_nil))))))
        (mss_cons (ms_set 7 sc__law_body.nd (me_fn (t__law_pick T) hr (by rfl) tk (ma_cons (me_var 0) (ma_cons (me_fn (t__law_arrays T) hr (by rfl) tk (ma_cons (me_var 2) ma_nil)) ma_nil))))
        (mss_cons (ms_set 8 sc__law_body.nd (me_fn (t__law_term T) hr (by rfl) tk (ma_cons (me_var 0) (ma_cons (me_var 2) ma_nil))))
        (mss_cons (ms_set 9 sc__law_body.nd (me_fn (t__law_term T) hr (by rfl) tk (ma_cons (me_var 0) (ma_cons (me_var 2) ma_nil))))
        (mss_cons (ms_ret (me_tup (ma_cons me_str (ma_cons (me_var 7) (ma_cons (me_var 8) (ma_cons (me_var 9) (ma_cons (me_fn R hr (by rfl) tk (ma_cons (me_var 0) (ma_cons (me_var 1) (ma_cons (me_var 2) (ma_cons (me_op or_sub (me_var 3) me_int) ma_nil))))) ma_nil)))))))
        mss_nil))))
        mss_nil)
        (mss_cons (ms_set 10 sc__law_body.nd (me_fn (t__law_value T) hr (by rfl) tk (ma_cons (me_var 0) (ma_cons (me_var 1) (ma_cons (me_var 2) ma_nil)))))
        (mss_cons (ms_set 11 sc__law_body.nd (me_fn (t__law_pick T) hr (by rfl) tk (ma_cons (me_var 0) (ma_cons (me_lst (ma_cons me_str (ma_cons me_str (ma_cons me_str ma_nil)))) ma_nil))))
        (mss_cons (ms_set 12 sc__law_body.nd (me_callTy (cr_dict2 (by rfl)) (by rfl) T.n_dict (ma_cons (me_var 2) ma_nil)))
        (mss_cons (ms_if (mt_cmp (or_eq hr) (me_get1 hr (me_var 2) (me_var 11)) me_str)
        (mss_cons (ms_set 11 sc__law_body.nd me_str)
        mss_nil)
        mss_nil)
        (mss_cons (ms_sub me_str (me_var 12) (me_var 11) (ps_ix hr))
        (mss_cons (ms_ret (me_tup (ma_cons me_str (ma_cons (me_var 11) (ma_cons (me_var 10) (ma_cons (me_fn R hr (by rfl) tk (ma_cons (me_var 0) (ma_cons (me_var 1) (ma_cons (me_var 12) (ma_cons (me_op or_sub (me_var 3) me_int) ma_nil))))) ma_nil))))))
        mss_nil)))))))))))
theorem sc__law_promises : FnScope ["box", "many", "found", "turn", "i", "j"] ["box", "many"] (defScope s__law_promises) := ⟨rfl, rfl, rfl, by decide +kernel, rfl, by decide +kernel, by decide +kernel⟩
theorem bd__law_promises : BindsOk "_law_promises" s__law_promises ["box", "many"] := fun _ _ _ _ _ _ us hl => match us, hl with | [_, _], _ => rfl
theorem t__law_promises (T : Txt P K mg) : FnT P w K mg base "_law_promises" 2 m__law_promises := .mk (k := 1) (N := ["box", "many", "found", "turn", "i", "j"]) (ps := ["box", "many"]) T.d__law_promises sc__law_promises bd__law_promises <| fun f cdv A outer s H E hr => by
  have tk := takes_of (X := cxOf (L2.CX P w) P w K mg base ["box", "many", "found", "turn", "i", "j"] "_law_promises" (defScope s__law_promises) f cdv A outer s H E) (E := E) rfl rfl rfl rfl
  exact (mss_cons (ms_set 2 sc__law_promises.nd (me_lst ma_nil))
  (mss_cons (ms_for (passes_of rfl) rfl (mi_range1 (by rfl) T.n_range (me_op or_mul (me_fn (t__law_draw T) hr (by rfl) tk (ma_cons (me_var 0) (ma_cons me_int ma_nil))) (me_callTy cr_int (by rfl) T.n_int (ma_cons (me_cmp or_gt (me_var 1) me_int) ma_nil)))) (mg_nm (pg_name (i := 3) sc__law_promises.nd rfl (by first | exact Or.inl rfl | exact Or.inr rfl)))
  (mss_cons (ms_set 4 sc__law_promises.nd (me_fn (t__law_draw T) hr (by rfl) tk (ma_cons (me_var 0) (ma_cons (me_var 1) ma_nil))))
  (mss_cons (ms_set 5 sc__law_promises.nd (me_op or_mod (me_callTy cr_int (by rfl) T.n_int (ma_cons (me_op or_add (me_op or_add (me_var 4) me_int) (me_fn (t__law_draw T) hr (by rfl) tk (ma_cons (me_var 0) (ma_cons (me_op or_sub (me_var 1) me_int) ma_nil)))) ma_nil)) (me_var 1)))
  (mss_cons (ms_expr (me_append (me_var 2) (me_tup (ma_cons (me_var 4) (ma_cons (me_var 5) (ma_cons (me_op or_sub (me_fn (t__law_draw T) hr (by rfl) tk (ma_cons (me_var 0) (ma_cons me_int ma_nil))) me_int) ma_nil))))))
  mss_nil))))
  (mss_cons (ms_ret (me_callTy cr_tuple (by rfl) T.n_tuple (ma_cons (me_var 2) ma_nil)))
  mss_nil)))
theorem sc__law_drawn : FnScope ["box", "depth", "heads", "name", "kinds", "names", "params", "kind", "functions", "opens"] ["box", "depth"] (defScope s__law_drawn) := ⟨rfl, rfl, rfl, by decide +kernel, rfl, by decide +kernel, by decide +kernel⟩
theorem bd__law_drawn : BindsOk "_law_drawn" s__law_drawn ["box", "depth"] := fun _ _ _ _ _ _ us hl => match us, hl with | [_, _], _ => rfl
theorem t__law_drawn (T : Txt P K mg) : FnT P w K mg base "_law_drawn" 12 m__law_drawn := .mk (k := 11) (N := ["box", "depth", "heads", "name", "kinds", "names", "params", "kind", "functions", "opens"]) (ps := ["box", "depth"]) T.d__law_drawn sc__law_drawn bd__law_drawn <| fun f cdv A outer s H E hr => by
  have tk := takes_of (X := cxOf (L2.CX P w) P w K mg base ["box", "depth", "heads", "name", "kinds", "names", "params", "kind", "functions", "opens"] "_law_drawn" (defScope s__law_drawn) f cdv A outer s H E) (E := E) rfl rfl rfl rfl
  exact (mss_cons (ms_set 2 sc__law_drawn.nd (me_lst ma_nil))
  (mss_cons (ms_for (passes_of rfl) rfl (mi_seq (me_gc (me_sl (me_lst (ma_cons me_str (ma_cons me_str ma_nil))) mp_none (mp_some (me_op or_add me_int (me_fn (t__law_draw T) hr (by rfl) tk (ma_cons (me_var 0) (ma_cons me_int ma_nil)))))))) (mg_nm (pg_name (i := 3) sc__law_drawn.nd rfl (by first | exact Or.inl rfl | exact Or.inr rfl)))
  (mss_cons (ms_set 4 sc__law_drawn.nd (me_gc (me_ix (xr_ix hr) (me_lst (ma_cons (me_lst (ma_cons me_str ma_nil)) (ma_cons (me_lst (ma_cons me_str (ma_cons me_str ma_nil))) (ma_cons (me_lst (ma_cons me_str (ma_cons me_str ma_nil))) (ma_cons (me_lst (ma_cons me_str ma_nil)) (ma_cons (me_lst ma_nil) (ma_cons (me_lst (ma_cons me_str (ma_cons me_str (ma_cons me_str ma_nil)))) (ma_cons (me_lst (ma_cons me_str (ma_cons me_str (ma_cons me_str ma_nil)))) ma_nil)))))))) (me_fn (t__law_draw T) hr (by rfl) tk (ma_cons (me_var 0) (ma_cons me_int ma_nil))))))
  (mss_cons (ms_set 5 sc__law_drawn.nd (me_disp (.cons me_str (me_lst (ma_cons me_str (ma_cons me_str ma_nil))) (.cons me_str (me_lst (ma_cons me_str (ma_cons me_str ma_nil))) .nil))))
  (mss_cons (ms_set 6 sc__law_drawn.nd (me_tup ma_nil))
  (mss_cons (ms_for (passes_of rfl) rfl (mi_seq (me_var 4)) (mg_nm (pg_name (i := 7) sc__law_drawn.nd rfl (by first | exact Or.inl rfl | exact Or.inr rfl)))
  (mss_cons (ms_set 6 sc__law_drawn.nd (me_op or_add (me_var 6) (me_tup (ma_cons (me_tup (ma_cons (me_popAt (me_ix (xr_ix hr) (me_var 5) (me_var 7)) me_int) (ma_cons (me_var 7) ma_nil))) ma_nil))))
  mss_nil))
  (mss_cons (ms_expr (me_append (me_var 2) (me_tup (ma_cons (me_var 3) (ma_cons (me_var 6) ma_nil)))))
  mss_nil))))))
  (mss_cons (ms_set 8 sc__law_drawn.nd (me_gc (me_callTy cr_tuple (by rfl) T.n_tuple (ma_cons (me_comp rfl sc__law_drawn.nd (mi_seq (me_var 2)) (blkOk_by (own := [("name", 3), ("params", 6)]) (by kernel_rfl)) (fun _ _ _ _ _ => (mg_tup rfl (pgs_cons' (pg_name (i := 3) sc__law_drawn.nd rfl (by first | exact Or.inl rfl | exact Or.inr rfl)) (pgs_cons' (pg_name (i := 6) sc__law_drawn.nd rfl (by first | exact Or.inl rfl | exact Or.inr rfl)) pgs_nil')))) (fun _ _ _ _ _ => mts_nil) (fun _ _ _ _ _ => (me_tup (ma_cons me_str (ma_cons (me_var 3) (ma_cons (me_var 6) (ma_cons (me_fn (t__law_body T 6) hr (by rfl) takes0 (ma_cons (me_var 0) (ma_cons (me_var 2) (ma_cons (me_callTy (cr_dict2 (by rfl)) (by rfl) T.n_dict (ma_cons (me_var 6) ma_nil)) (ma_cons (me_var 1) ma_nil))))) ma_nil))))))) ma_nil))))
  (mss_cons (ms_set 9 sc__law_drawn.nd (me_lst ma_nil))
  (mss_cons (ms_for (passes_of rfl) rfl (mi_seq (me_var 2)) (mg_tup rfl (pgs_cons' (pg_name (i := 3) sc__law_drawn.nd rfl (by first | exact Or.inl rfl | exact Or.inr rfl)) (pgs_cons' (pg_name (i := 6) sc__law_drawn.nd rfl (by first | exact Or.inl rfl | exact Or.inr rfl)) pgs_nil')))
  (mss_cons (ms_if (mt_w (mw_or (mt_gc (mt_cmp (or_eq hr) (me_var 9) (me_lst ma_nil))) (mw_or1 (mt_cmp (or_eq hr) (me_fn (t__law_draw T) hr (by rfl) tk (ma_cons (me_var 0) (ma_cons me_int ma_nil))) me_int))))
  (mss_cons (ms_expr (me_append (me_var 9) (me_tup (ma_cons (me_var 3) (ma_cons (me_fn (t__law_promises T) hr (by rfl) tk (ma_cons (me_var 0) (ma_cons (me_op or_add (me_callB cr_len (by rfl) T.n_len (ma_cons (me_var 6) ma_nil)) me_int) ma_nil))) ma_nil)))))
  mss_nil)
  mss_nil)
  mss_nil))
  (mss_cons (ms_ret (me_tup (ma_cons me_str (ma_cons (me_var 8) (ma_cons (me_callTy cr_tuple (by rfl) T.n_tuple (ma_cons (me_var 9) ma_nil)) ma_nil)))))
  mss_nil))))))
theorem sc__law_known : FnScope ["box", "kind", "c", "d", "more", "walk", "first", "low", "high", "part", "half", "seek", "params", "down", "count"] ["box"] (defScope s__law_known) := ⟨rfl, rfl, rfl, by decide +kernel, rfl, by decide +kernel, by decide +kernel⟩
theorem bd__law_known : BindsOk "_law_known" s__law_known ["box"] := fun _ _ _ _ _ _ us hl => match us, hl with | [_], _ => rfl
theorem t__law_known (T : Txt P K mg) : FnT P w K mg base "_law_known" 2 m__law_known := .mk (k := 1) (N := ["box", "kind", "c", "d", "more", "walk", "first", "low", "high", "part", "half", "seek", "params", "down", "count"]) (ps := ["box"]) T.d__law_known sc__law_known bd__law_known <| fun f cdv A outer s H E hr => by
  have tk := takes_of (X := cxOf (L2.CX P w) P w K mg base ["box", "kind", "c", "d", "more", "walk", "first", "low", "high", "part", "half", "seek", "params", "down", "count"] "_law_known" (defScope s__law_known) f cdv A outer s H E) (E := E) rfl rfl rfl rfl
  exact (mss_cons (ms_set 1 sc__law_known.nd (me_fn (t__law_draw T) hr (by rfl) tk (ma_cons (me_var 0) (ma_cons me_int ma_nil))))
  (mss_cons (ms_set 2 sc__law_known.nd (me_op or_sub (me_fn (t__law_draw T) hr (by rfl) tk (ma_cons (me_var 0) (ma_cons me_int ma_nil))) me_int))
  (mss_cons (ms_set 3 sc__law_known.nd (me_fn (t__law_draw T) hr (by rfl) tk (ma_cons (me_var 0) (ma_cons me_int ma_nil))))
  (mss_cons (ms_if (mt_cmp (or_eq hr) (me_var 1) me_int)
  (mss_cons (ms_set 4 sc__law_known.nd (me_tup (ma_cons me_str (ma_cons me_str (ma_cons (me_tup (ma_cons me_str (ma_cons me_str (ma_cons (me_tup (ma_cons (me_tup (ma_cons me_str (ma_cons me_str ma_nil))) (ma_cons (me_tup (ma_cons me_str (ma_cons me_str (ma_cons me_int ma_nil)))) ma_nil))) ma_nil)))) (ma_cons (me_tup (ma_cons me_str (ma_cons (me_tup (ma_cons me_str (ma_cons me_str (ma_cons me_int ma_nil)))) ma_nil))) ma_nil))))))
  (mss_cons (ms_set 5 sc__law_known.nd (me_tup (ma_cons me_str (ma_cons (me_tup (ma_cons me_str (ma_cons (me_tup (ma_cons me_str (ma_cons me_str (ma_cons me_int ma_nil)))) (ma_cons (me_tup (ma_cons me_str (ma_cons me_str (ma_cons (me_var 2) ma_nil)))) ma_nil)))) (ma_cons (me_tup (ma_cons me_str (ma_cons (me_tup (ma_cons me_str (ma_cons me_str (ma_cons me_int ma_nil)))) ma_nil))) (ma_cons (me_tup (ma_cons me_str (ma_cons me_str (ma_cons (me_tup (ma_cons me_str (ma_cons me_str (ma_cons (me_tup (ma_cons me_str (ma_cons me_str (ma_cons me_int ma_nil)))) ma_nil)))) (ma_cons (me_var 4) ma_nil))))) ma_nil))))))
  (mss_cons (ms_set 6 sc__law_known.nd (me_tup (ma_cons me_str (ma_cons me_str (ma_cons (me_tup (ma_cons me_str (ma_cons me_str (ma_cons (me_tup (ma_cons (me_tup (ma_cons me_str (ma_cons me_str ma_nil))) (ma_cons (me_tup (ma_cons me_str (ma_cons (me_var 3) ma_nil))) ma_nil))) ma_nil)))) (ma_cons (me_tup (ma_cons me_str (ma_cons (me_tup (ma_cons me_str (ma_cons (me_tup (ma_cons me_str (ma_cons me_int ma_nil))) (ma_cons (me_tup (ma_cons me_str (ma_cons me_str (ma_cons me_int ma_nil)))) ma_nil)))) (ma_cons (me_tup (ma_cons me_str (ma_cons (me_tup (ma_cons me_str (ma_cons me_str (ma_cons me_int ma_nil)))) ma_nil))) ma_nil)))) ma_nil))))))
  (mss_cons (ms_ret (me_tup (ma_cons me_str (ma_cons (me_tup (ma_cons (me_tup (ma_cons me_str (ma_cons me_str (ma_cons (me_tup (ma_cons (me_tup (ma_cons me_str (ma_cons me_str ma_nil))) (ma_cons (me_tup (ma_cons me_str (ma_cons me_str ma_nil))) ma_nil))) (ma_cons (me_var 5) ma_nil))))) (ma_cons (me_tup (ma_cons me_str (ma_cons me_str (ma_cons (me_tup (ma_cons (me_tup (ma_cons me_str (ma_cons me_str ma_nil))) ma_nil)) (ma_cons (me_var 6) ma_nil))))) ma_nil))) (ma_cons (me_tup (ma_cons (me_tup (ma_cons me_str (ma_cons (me_tup ma_nil) ma_nil))) ma_nil)) ma_nil)))))
  mss_nil))))
  mss_nil)
  (mss_cons (ms_if (mt_cmp (or_eq hr) (me_var 1) me_int)
  (mss_cons (ms_set 7 sc__law_known.nd (me_tup (ma_cons me_str (ma_cons me_str (ma_cons (me_tup (ma_cons me_str (ma_cons me_str (ma_cons (me_tup (ma_cons (me_tup (ma_cons me_str (ma_cons me_str ma_nil))) (ma_cons (me_tup (ma_cons me_str (ma_cons me_str (ma_cons me_int ma_nil)))) (ma_cons (me_tup (ma_cons me_str (ma_cons me_str (ma_cons me_int ma_nil)))) ma_nil)))) ma_nil)))) (ma_cons (me_tup (ma_cons me_str (ma_cons (me_tup (ma_cons me_str (ma_cons me_str (ma_cons me_int ma_nil)))) ma_nil))) ma_nil))))))
  (mss_cons (ms_set 8 sc__law_known.nd (me_tup (ma_cons me_str (ma_cons me_str (ma_cons (me_tup (ma_cons me_str (ma_cons me_str (ma_cons (me_tup (ma_cons (me_tup (ma_cons me_str (ma_cons me_str ma_nil))) (ma_cons (me_tup (ma_cons me_str (ma_cons me_str (ma_cons me_int ma_nil)))) (ma_cons (me_tup (ma_cons me_str (ma_cons me_str (ma_cons (me_op or_add (me_op or_sub me_int me_int) (me_var 3)) ma_nil)))) ma_nil)))) ma_nil)))) (ma_cons (me_tup (ma_cons me_str (ma_cons (me_tup (ma_cons me_str (ma_cons me_str (ma_cons me_int ma_nil)))) ma_nil))) ma_nil))))))
  (mss_cons (ms_set 9 sc__law_known.nd (me_tup (ma_cons me_str (ma_cons (me_tup (ma_cons me_str (ma_cons (me_tup (ma_cons me_str (ma_cons me_str (ma_cons me_int ma_nil)))) (ma_cons (me_tup (ma_cons me_str (ma_cons me_int ma_nil))) ma_nil)))) (ma_cons (me_var 7) (ma_cons (me_var 8) ma_nil))))))
  (mss_cons (ms_set 10 sc__law_known.nd (me_tup (ma_cons me_str (ma_cons me_str (ma_cons (me_tup (ma_cons me_str (ma_cons (me_tup (ma_cons me_str (ma_cons me_str (ma_cons me_int ma_nil)))) (ma_cons (me_tup (ma_cons me_str (ma_cons me_str (ma_cons me_int ma_nil)))) ma_nil)))) (ma_cons (me_tup (ma_cons me_str (ma_cons me_str (ma_cons (me_tup (ma_cons me_str (ma_cons me_str (ma_cons (me_tup (ma_cons me_str (ma_cons me_str (ma_cons me_int ma_nil)))) ma_nil)))) (ma_cons (me_var 9) ma_nil))))) ma_nil))))))
  (mss_cons (ms_set 11 sc__law_known.nd (me_tup (ma_cons me_str (ma_cons (me_tup (ma_cons me_str (ma_cons (me_tup (ma_cons me_str (ma_cons me_str (ma_cons me_int ma_nil)))) (ma_cons (me_tup (ma_cons me_str (ma_cons me_str (ma_cons me_int ma_nil)))) ma_nil)))) (ma_cons (me_var 10) (ma_cons (me_tup (ma_cons me_str (ma_cons (me_tup (ma_cons me_str (ma_cons me_str (ma_cons me_int ma_nil)))) ma_nil))) ma_nil))))))
  (mss_cons (ms_set 6 sc__law_known.nd (me_tup (ma_cons me_str (ma_cons me_str (ma_cons (me_tup (ma_cons me_str (ma_cons me_str (ma_cons (me_tup (ma_cons (me_tup (ma_cons me_str (ma_cons me_str ma_nil))) (ma_cons (me_tup (ma_cons me_str (ma_cons me_int ma_nil))) (ma_cons (me_tup (ma_cons me_str (ma_cons me_str (ma_cons (me_var 2) ma_nil)))) ma_nil)))) ma_nil)))) (ma_cons (me_tup (ma_cons me_str (ma_cons (me_tup (ma_cons me_str (ma_cons me_str (ma_cons me_int ma_nil)))) ma_nil))) ma_nil))))))
  (mss_cons (ms_set 12 sc__law_known.nd (me_tup (ma_cons (me_tup (ma_cons me_str (ma_cons me_str ma_nil))) (ma_cons (me_tup (ma_cons me_str (ma_cons me_str ma_nil))) (ma_cons (me_tup (ma_cons me_str (ma_cons me_str ma_nil))) ma_nil)))))
  (mss_cons (ms_ret (me_tup (ma_cons me_str (ma_cons (me_tup (ma_cons (me_tup (ma_cons me_str (ma_cons me_str (ma_cons (me_var 12) (ma_cons (me_var 11) ma_nil))))) (ma_cons (me_tup (ma_cons me_str (ma_cons me_str (ma_cons (me_tup (ma_cons (me_tup (ma_cons me_str (ma_cons me_str ma_nil))) ma_nil)) (ma_cons (me_var 6) ma_nil))))) ma_nil))) (ma_cons (me_tup (ma_cons (me_tup (ma_cons me_str (ma_cons (me_tup ma_nil) ma_nil))) ma_nil)) ma_nil)))))
  mss_nil))))))))
  mss_nil)
  (mss_cons (ms_set 13 sc__law_known.nd (me_tup (ma_cons me_str (ma_cons me_str (ma_cons (me_tup (ma_cons me_str (ma_cons me_str (ma_cons (me_tup (ma_cons (me_tup (ma_cons me_str (ma_cons me_str (ma_cons (me_op or_sub me_int me_int) ma_nil)))) ma_nil)) ma_nil)))) (ma_cons (me_tup (ma_cons me_str (ma_cons (me_tup (ma_cons me_str (ma_cons me_str (ma_cons (me_var 2) ma_nil)))) ma_nil))) ma_nil))))))
  (mss_cons (ms_set 14 sc__law_known.nd (me_tup (ma_cons me_str (ma_cons (me_tup (ma_cons me_str (ma_cons (me_tup (ma_cons me_str (ma_cons me_str (ma_cons me_int ma_nil)))) (ma_cons (me_tup (ma_cons me_str (ma_cons me_int ma_nil))) ma_nil)))) (ma_cons (me_tup (ma_cons me_str (ma_cons (me_tup (ma_cons me_str (ma_cons (me_var 3) ma_nil))) ma_nil))) (ma_cons (me_var 13) ma_nil))))))
  (mss_cons (ms_set 6 sc__law_known.nd (me_tup (ma_cons me_str (ma_cons me_str (ma_cons (me_tup (ma_cons me_str (ma_cons me_str (ma_cons (me_tup (ma_cons (me_tup (ma_cons me_str (ma_cons me_str (ma_cons me_int ma_nil)))) ma_nil)) ma_nil)))) (ma_cons (me_tup (ma_cons me_str (ma_cons (me_tup (ma_cons me_str (ma_cons (me_tup (ma_cons me_str (ma_cons me_int ma_nil))) (ma_cons (me_tup (ma_cons me_str (ma_cons me_str (ma_cons me_int ma_nil)))) ma_nil)))) (ma_cons (me_tup (ma_cons me_str (ma_cons (me_tup (ma_cons me_str (ma_cons me_str (ma_cons me_int ma_nil)))) ma_nil))) ma_nil)))) ma_nil))))))
  (mss_cons (ms_ret (me_tup (ma_cons me_str (ma_cons (me_tup (ma_cons (me_tup (ma_cons me_str (ma_cons me_str (ma_cons (me_tup (ma_cons (me_tup (ma_cons me_str (ma_cons me_str ma_nil))) ma_nil)) (ma_cons (me_var 14) ma_nil))))) (ma_cons (me_tup (ma_cons me_str (ma_cons me_str (ma_cons (me_tup (ma_cons (me_tup (ma_cons me_str (ma_cons me_str ma_nil))) ma_nil)) (ma_cons (me_var 6) ma_nil))))) ma_nil))) (ma_cons (me_tup (ma_cons (me_tup (ma_cons me_str (ma_cons (me_tup (ma_cons (me_tup (ma_cons me_int (ma_cons me_int (ma_cons me_int ma_nil)))) ma_nil)) ma_nil))) ma_nil)) ma_nil)))))
  mss_nil)))))))))
theorem sc__law_program : FnScope ["box", "depth"] ["box", "depth"] (defScope s__law_program) := ⟨rfl, rfl, rfl, by decide +kernel, rfl, by decide +kernel, by decide +kernel⟩
theorem bd__law_program : BindsOk "_law_program" s__law_program ["box", "depth"] := fun _ _ _ _ _ _ us hl => match us, hl with | [_, _], _ => rfl
theorem t__law_program (T : Txt P K mg) : FnT P w K mg base "_law_program" 13 m__law_program := .mk (k := 12) (N := ["box", "depth"]) (ps := ["box", "depth"]) T.d__law_program sc__law_program bd__law_program <| fun f cdv A outer s H E hr => by
  have tk := takes_of (X := cxOf (L2.CX P w) P w K mg base ["box", "depth"] "_law_program" (defScope s__law_program) f cdv A outer s H E) (E := E) rfl rfl rfl rfl
  exact (mss_cons (ms_if (mt_cmp (or_eq hr) (me_fn (t__law_draw T) hr (by rfl) tk (ma_cons (me_var 0) (ma_cons me_int ma_nil))) me_int)
  (mss_cons (ms_ret (me_fn (t__law_known T) hr (by rfl) tk (ma_cons (me_var 0) ma_nil)))
  mss_nil)
  mss_nil)
  (mss_cons (ms_ret (me_fn (t__law_drawn T) hr (by rfl) tk (ma_cons (me_var 0) (ma_cons (me_var 1) ma_nil))))
  mss_nil))
theorem sc__law_index : FnScope ["program", "name", "function"] ["program", "name"] (defScope s__law_index) := ⟨rfl, rfl, rfl, by decide +kernel, rfl, by decide +kernel, by decide +kernel⟩
theorem bd__law_index : BindsOk "_law_index" s__law_index ["program", "name"] := fun _ _ _ _ _ _ us hl => match us, hl with | [_, _], _ => rfl
theorem t__law_index (T : Txt P K mg) : FnT P w K mg base "_law_index" 1 m__law_index := .mk (k := 0) (N := ["program", "name", "function"]) (ps := ["program", "name"]) T.d__law_index sc__law_index bd__law_index <| fun f cdv A outer s H E hr => by
  have tk := takes_of (X := cxOf (L2.CX P w) P w K mg base ["program", "name", "function"] "_law_index" (defScope s__law_index) f cdv A outer s H E) (E := E) rfl rfl rfl rfl
  exact (mss_cons (ms_ret (me_index hr (me_comp rfl sc__law_index.nd (mi_seq (me_ix (xr_ix hr) (me_var 0) me_int)) (blkOk_by (own := [("function", 2)]) (by kernel_rfl)) (fun _ _ _ _ _ => (mg_nm (pg_name (i := 2) sc__law_index.nd rfl (by first | exact Or.inl rfl | exact Or.inr rfl)))) (fun _ _ _ _ _ => mts_nil) (fun _ _ _ _ _ => (me_ix (xr_ix hr) (me_var 2) me_int))) (me_var 1)))
  mss_nil)
theorem sc__law_same : FnScope ["actual", "due"] ["actual", "due"] (defScope s__law_same) := ⟨rfl, rfl, rfl, by decide +kernel, rfl, by decide +kernel, by decide +kernel⟩
theorem bd__law_same : BindsOk "_law_same" s__law_same ["actual", "due"] := fun _ _ _ _ _ _ us hl => match us, hl with | [_, _], _ => rfl
theorem t__law_same (T : Txt P K mg) : FnT P w K mg base "_law_same" 1 m__law_same := .mk (k := 0) (N := ["actual", "due"]) (ps := ["actual", "due"]) T.d__law_same sc__law_same bd__law_same <| fun f cdv A outer s H E hr => by
  have tk := takes_of (X := cxOf (L2.CX P w) P w K mg base ["actual", "due"] "_law_same" (defScope s__law_same) f cdv A outer s H E) (E := E) rfl rfl rfl rfl
  exact (mss_cons (ms_ret (me_cmp (or_eq hr) (me_callB cr_repr2 (by rfl) T.n_repr (ma_cons (me_var 0) ma_nil)) (me_callB cr_repr2 (by rfl) T.n_repr (ma_cons (me_var 1) ma_nil))))
  mss_nil)
theorem sc__law_keeps : FnScope ["program", "call", "sizes", "item", "size", "names", "pair", "i", "j", "c"] ["program", "call"] (defScope s__law_keeps) := ⟨rfl, rfl, rfl, by decide +kernel, rfl, by decide +kernel, by decide +kernel⟩
theorem bd__law_keeps : BindsOk "_law_keeps" s__law_keeps ["program", "call"] := fun _ _ _ _ _ _ us hl => match us, hl with | [_, _], _ => rfl
theorem t__law_keeps (T : Txt P K mg) : FnT P w K mg base "_law_keeps" 1 m__law_keeps := .mk (k := 0) (N := ["program", "call", "sizes", "item", "size", "names", "pair", "i", "j", "c"]) (ps := ["program", "call"]) T.d__law_keeps sc__law_keeps bd__law_keeps <| fun f cdv A outer s H E hr => by
  have tk := takes_of (X := cxOf (L2.CX P w) P w K mg base ["program", "call", "sizes", "item", "size", "names", "pair", "i", "j", "c"] "_law_keeps" (defScope s__law_keeps) f cdv A outer s H E) (E := E) rfl rfl rfl rfl
  exact (mss_cons (ms_set 2 sc__law_keeps.nd (me_lst (ma_cons me_int ma_nil)))
  (mss_cons (ms_for (passes_of rfl) rfl (mi_seq (me_ix (xr_ix hr) (me_var 1) me_int)) (mg_nm (pg_name (i := 3) sc__law_keeps.nd rfl (by first | exact Or.inl rfl | exact Or.inr rfl)))
  (mss_cons (ms_set 4 sc__law_keeps.nd (me_var 3))
  (mss_cons (ms_if (mt_val (me_isI (T := "tuple") (by rfl) T.n_isinstance (me_var 3) (by rfl) T.n_tuple))
  (mss_cons (ms_set 4 sc__law_keeps.nd (me_callB cr_len (by rfl) T.n_len (ma_cons (me_var 3) ma_nil)))
  mss_nil)
  mss_nil)
  (mss_cons (ms_expr (me_append (me_var 2) (me_var 4)))
  mss_nil))))
  (mss_cons (ms_setC 5 rfl sc__law_keeps.nd (mi_seq (me_ix (xr_ix hr) (me_var 0) me_int)) (blkOk_by (own := [("pair", 6)]) (by kernel_rfl)) (fun _ _ _ _ _ => (mg_nm (pg_name (i := 6) sc__law_keeps.nd rfl (by first | exact Or.inl rfl | exact Or.inr rfl)))) (fun _ _ _ _ _ => mts_nil) (fun _ _ _ _ _ => (me_ix (xr_ix hr) (me_var 6) me_int)))
  (mss_cons (ms_ret (me_gc (me_cmp (or_eq hr) (me_comp rfl sc__law_keeps.nd (mi_seq (me_ix (xr_ix hr) (me_ix (xr_ix hr) (me_ix (xr_ix hr) (me_var 0) me_int) (me_index hr (me_var 5) (me_ix (xr_ix hr) (me_var 1) me_int))) me_int)) (blkOk_by (own := [("i", 7), ("j", 8), ("c", 9)]) (by kernel_rfl)) (fun _ _ _ _ _ => (mg_tup rfl (pgs_cons' (pg_name (i := 7) sc__law_keeps.nd rfl (by first | exact Or.inl rfl | exact Or.inr rfl)) (pgs_cons' (pg_name (i := 8) sc__law_keeps.nd rfl (by first | exact Or.inl rfl | exact Or.inr rfl)) (pgs_cons' (pg_name (i := 9) sc__law_keeps.nd rfl (by first | exact Or.inl rfl | exact Or.inr rfl)) pgs_nil'))))) (fun _ _ _ _ _ => (mts_one (mt_cmp or_gt (me_ix (xr_ix hr) (me_var 2) (me_var 7)) (me_op or_add (me_ix (xr_ix hr) (me_var 2) (me_var 8)) (me_var 9))))) (fun _ _ _ _ _ => me_int)) (me_lst ma_nil))))
  mss_nil))))
theorem sc__law_call : FnScope ["box", "program", "name", "args", "param", "k"] ["box", "program"] (defScope s__law_call) := ⟨rfl, rfl, rfl, by decide +kernel, rfl, by decide +kernel, by decide +kernel⟩
theorem bd__law_call : BindsOk "_law_call" s__law_call ["box", "program"] := fun _ _ _ _ _ _ us hl => match us, hl with | [_, _], _ => rfl
theorem t__law_call (T : Txt P K mg) : FnT P w K mg base "_law_call" 3 m__law_call := .mk (k := 2) (N := ["box", "program", "name", "args", "param", "k"]) (ps := ["box", "program"]) T.d__law_call sc__law_call bd__law_call <| fun f cdv A outer s H E hr => by
  have tk := takes_of (X := cxOf (L2.CX P w) P w K mg base ["box", "program", "name", "args", "param", "k"] "_law_call" (defScope s__law_call) f cdv A outer s H E) (E := E) rfl rfl rfl rfl
  exact (mss_cons (ms_set 2 sc__law_call.nd (me_ix (xr_ix hr) (me_fn (t__law_pick T) hr (by rfl) tk (ma_cons (me_var 0) (ma_cons (me_ix (xr_ix hr) (me_var 1) me_int) ma_nil))) me_int))
  (mss_cons (ms_set 3 sc__law_call.nd (me_tup ma_nil))
  (mss_cons (ms_for (passes_of rfl) rfl (mi_seq (me_ix (xr_ix hr) (me_ix (xr_ix hr) (me_ix (xr_ix hr) (me_var 1) me_int) (me_fn (t__law_index T) hr (by rfl) tk (ma_cons (me_var 1) (ma_cons (me_var 2) ma_nil)))) me_int)) (mg_nm (pg_name (i := 4) sc__law_call.nd rfl (by first | exact Or.inl rfl | exact Or.inr rfl)))
  (mss_cons (ms_if (mt_cmp (or_eq hr) (me_ix (xr_ix hr) (me_var 4) me_int) me_str)
  (mss_cons (ms_set 3 sc__law_call.nd (me_op or_add (me_var 3) (me_tup (ma_cons (me_op or_sub (me_fn (t__law_draw T) hr (by rfl) tk (ma_cons (me_var 0) (ma_cons me_int ma_nil))) me_int) ma_nil))))
  mss_nil)
  (mss_cons (ms_set 3 sc__law_call.nd (me_op or_add (me_var 3) (me_tup (ma_cons (me_gc (me_callTy cr_tuple (by rfl) T.n_tuple (ma_cons (me_comp rfl sc__law_call.nd (mi_range1 (by rfl) T.n_range (me_fn (t__law_draw T) hr (by rfl) tk (ma_cons (me_var 0) (ma_cons me_int ma_nil)))) (blkOk_by (own := [("k", 5)]) (by kernel_rfl)) (fun _ _ _ _ _ => (mg_nm (pg_name (i := 5) sc__law_call.nd rfl (by first | exact Or.inl rfl | exact Or.inr rfl)))) (fun _ _ _ _ _ => mts_nil) (fun _ _ _ _ _ => (me_op or_sub (me_fn (t__law_draw T) hr (by rfl) takes0 (ma_cons (me_var 0) (ma_cons me_int ma_nil))) me_int))) ma_nil))) ma_nil))))
  mss_nil))
  mss_nil))
  (mss_cons (ms_ret (me_tup (ma_cons me_str (ma_cons (me_var 2) (ma_cons (me_var 3) (ma_cons (me_gc (me_callTy cr_tuple (by rfl) T.n_tuple (ma_cons (me_comp rfl sc__law_call.nd (mi_range1 (by rfl) T.n_range (me_fn (t__law_draw T) hr (by rfl) tk (ma_cons (me_var 0) (ma_cons me_int ma_nil)))) (blkOk_by (own := [("k", 5)]) (by kernel_rfl)) (fun _ _ _ _ _ => (mg_nm (pg_name (i := 5) sc__law_call.nd rfl (by first | exact Or.inl rfl | exact Or.inr rfl)))) (fun _ _ _ _ _ => mts_nil) (fun _ _ _ _ _ => (me_op or_sub (me_fn (t__law_draw T) hr (by rfl) takes0 (ma_cons (me_var 0) (ma_cons me_int ma_nil))) me_int))) ma_nil))) ma_nil))))))
  mss_nil))))
theorem sc__law_whole : FnScope ["thing"] ["thing"] (defScope s__law_whole) := ⟨rfl, rfl, rfl, by decide +kernel, rfl, by decide +kernel, by decide +kernel⟩
theorem bd__law_whole : BindsOk "_law_whole" s__law_whole ["thing"] := fun _ _ _ _ _ _ us hl => match us, hl with | [_], _ => rfl
theorem t__law_whole (T : Txt P K mg) : FnT P w K mg base "_law_whole" 1 m__law_whole := .mk (k := 0) (N := ["thing"]) (ps := ["thing"]) T.d__law_whole sc__law_whole bd__law_whole <| fun f cdv A outer s H E hr => by
  have tk := takes_of (X := cxOf (L2.CX P w) P w K mg base ["thing"] "_law_whole" (defScope s__law_whole) f cdv A outer s H E) (E := E) rfl rfl rfl rfl
  exact (mss_cons (ms_ret (me_and (me_isI (T := "int") (by rfl) T.n_isinstance (me_var 0) (by rfl) T.n_int) (me_one (me_not (me_isI (T := "bool") (by rfl) T.n_isinstance (me_var 0) (by rfl) T.n_bool)))))
  mss_nil)
theorem sc__law_row : FnScope ["thing", "item"] ["thing"] (defScope s__law_row) := ⟨rfl, rfl, rfl, by decide +kernel, rfl, by decide +kernel, by decide +kernel⟩
theorem bd__law_row : BindsOk "_law_row" s__law_row ["thing"] := fun _ _ _ _ _ _ us hl => match us, hl with | [_], _ => rfl
theorem t__law_row (T : Txt P K mg) : FnT P w K mg base "_law_row" 2 m__law_row := .mk (k := 1) (N := ["thing", "item"]) (ps := ["thing"]) T.d__law_row sc__law_row bd__law_row <| fun f cdv A outer s H E hr => by
  have tk := takes_of (X := cxOf (L2.CX P w) P w K mg base ["thing", "item"] "_law_row" (defScope s__law_row) f cdv A outer s H E) (E := E) rfl rfl rfl rfl
  exact (mss_cons (ms_ret (me_and (me_isI (T := "tuple") (by rfl) T.n_isinstance (me_var 0) (by rfl) T.n_tuple) (me_one (me_gc (me_cmp (or_eq hr) (me_comp rfl sc__law_row.nd (mi_seq (me_var 0)) (blkOk_by (own := [("item", 1)]) (by kernel_rfl)) (fun _ _ _ _ _ => (mg_nm (pg_name (i := 1) sc__law_row.nd rfl (by first | exact Or.inl rfl | exact Or.inr rfl)))) (fun _ _ _ _ _ => (mts_one (mt_not (mt_val (me_fn (t__law_whole T) hr (by rfl) takes0 (ma_cons (me_var 1) ma_nil)))))) (fun _ _ _ _ _ => (me_var 1))) (me_lst ma_nil))))))
  mss_nil)
theorem sc__law_due : FnScope ["program", "thing", "pair", "params", "k", "fits_v"] ["program", "thing"] (defScope s__law_due) := ⟨rfl, rfl, rfl, by decide +kernel, rfl, by decide +kernel, by decide +kernel⟩
theorem bd__law_due : BindsOk "_law_due" s__law_due ["program", "thing"] := fun _ _ _ _ _ _ us hl => match us, hl with | [_, _], _ => rfl
theorem t__law_due (T : Txt P K mg) : FnT P w K mg base "_law_due" 3 m__law_due := .mk (k := 2) (N := ["program", "thing", "pair", "params", "k", "fits_v"]) (ps := ["program", "thing"]) T.d__law_due sc__law_due bd__law_due <| fun f cdv A outer s H E hr => by
  have tk := takes_of (X := cxOf (L2.CX P w) P w K mg base ["program", "thing", "pair", "params", "k", "fits_v"] "_law_due" (defScope s__law_due) f cdv A outer s H E) (E := E) rfl rfl rfl rfl
  exact (mss_cons (ms_if (mt_w (mw_or (mt_not (mt_val (me_isI (T := "tuple") (by rfl) T.n_isinstance (me_var 1) (by rfl) T.n_tuple))) (mw_or (mt_cmp (or_ne hr) (me_callB cr_len (by rfl) T.n_len (ma_cons (me_var 1) ma_nil)) me_int) (mw_or1 (mt_cmp (or_ne hr) (me_ix (xr_ix hr) (me_var 1) me_int) me_str)))))
  (mss_cons (ms_ret me_int)
  mss_nil)
  mss_nil)
  (mss_cons (ms_if (mt_w (mw_or (mt_not (mt_val (me_isI (T := "str") (by rfl) T.n_isinstance (me_ix (xr_ix hr) (me_var 1) me_int) (by rfl) T.n_str))) (mw_or1 (mt_gc (mt_cmp (or_notIn hr) (me_ix (xr_ix hr) (me_var 1) me_int) (me_comp rfl sc__law_due.nd (mi_seq (me_ix (xr_ix hr) (me_var 0) me_int)) (blkOk_by (own := [("pair", 2)]) (by kernel_rfl)) (fun _ _ _ _ _ => (mg_nm (pg_name (i := 2) sc__law_due.nd rfl (by first | exact Or.inl rfl | exact Or.inr rfl)))) (fun _ _ _ _ _ => mts_nil) (fun _ _ _ _ _ => (me_ix (xr_ix hr) (me_var 2) me_int))))))))
  (mss_cons (ms_ret me_int)
  mss_nil)
  mss_nil)
  (mss_cons (ms_set 3 sc__law_due.nd (me_ix (xr_ix hr) (me_ix (xr_ix hr) (me_ix (xr_ix hr) (me_var 0) me_int) (me_fn (t__law_index T) hr (by rfl) tk (ma_cons (me_var 0) (ma_cons (me_ix (xr_ix hr) (me_var 1) me_int) ma_nil)))) me_int))
  (mss_cons (ms_if (mt_w (mw_or (mt_not (mt_val (me_isI (T := "tuple") (by rfl) T.n_isinstance (me_ix (xr_ix hr) (me_var 1) me_int) (by rfl) T.n_tuple))) (mw_or1 (mt_cmp (or_ne hr) (me_callB cr_len (by rfl) T.n_len (ma_cons (me_ix (xr_ix hr) (me_var 1) me_int) ma_nil)) (me_callB cr_len (by rfl) T.n_len (ma_cons (me_var 3) ma_nil))))))
  (mss_cons (ms_ret me_int)
  mss_nil)
  mss_nil)
  (mss_cons (ms_for (passes_of rfl) rfl (mi_range1 (by rfl) T.n_range (me_callB cr_len (by rfl) T.n_len (ma_cons (me_var 3) ma_nil))) (mg_nm (pg_name (i := 4) sc__law_due.nd rfl (by first | exact Or.inl rfl | exact Or.inr rfl)))
  (mss_cons (ms_set 5 sc__law_due.nd (me_fn (t__law_row T) hr (by rfl) tk (ma_cons (me_ix (xr_ix hr) (me_ix (xr_ix hr) (me_var 1) me_int) (me_var 4)) ma_nil)))
  (mss_cons (ms_if (mt_cmp (or_eq hr) (me_ix (xr_ix hr) (me_ix (xr_ix hr) (me_var 3) (me_var 4)) me_int) me_str)
  (mss_cons (ms_set 5 sc__law_due.nd (me_fn (t__law_whole T) hr (by rfl) tk (ma_cons (me_ix (xr_ix hr) (me_ix (xr_ix hr) (me_var 1) me_int) (me_var 4)) ma_nil)))
  mss_nil)
  mss_nil)
  (mss_cons (ms_if (mt_not (mt_val (me_var 5)))
  (mss_cons (ms_ret me_int)
  mss_nil)
  mss_nil)
  mss_nil))))
  (mss_cons (ms_if (mt_not (mt_val (me_fn (t__law_row T) hr (by rfl) tk (ma_cons (me_ix (xr_ix hr) (me_var 1) me_int) ma_nil))))
  (mss_cons (ms_ret me_int)
  mss_nil)
  mss_nil)
  (mss_cons (ms_if (mt_not (mt_val (me_fn (t__law_keeps T) hr (by rfl) tk (ma_cons (me_var 0) (ma_cons (me_var 1) ma_nil)))))
  (mss_cons (ms_ret me_str)
  mss_nil)
  mss_nil)
  (mss_cons (ms_ret me_none)
  mss_nil))))))))
theorem sc__law_told : FnScope ["program", "thing", "error"] ["program", "thing"] (defScope s__law_told) := ⟨rfl, rfl, rfl, by decide +kernel, rfl, by decide +kernel, by decide +kernel⟩
theorem bd__law_told : BindsOk "_law_told" s__law_told ["program", "thing"] := fun _ _ _ _ _ _ us hl => match us, hl with | [_, _], _ => rfl
/-- the clause of _law_told -/
theorem tr_told {X : Cx} {Wx : WX} {body : List Stmt} {m : SM} {P : Program} {np h1 h2 i1 i2 i3 i4 i5 g1 g2 g3 g4 g5 g6 g7 g8 g9 s1 s2 s3 pos pos' : Pos} {j1 j2 : Nat} (T : Txt P X.K X.mg) (hs : X.stack = X.env :: X.outer) (hf : X.env.frame = some X.env.locals) (hN : X.N = (["program", "thing", "error"] : List Str)) (hsc : X.env.scope = defScope s__law_told) (tk : Takes X Wx)
    (hb : ∀ (W : WX) (pn : List (Addr × Obj)) (xe : Value → Shared → Prop), Takes (X.tr pn xe) W → PassesOwn (model X.prog X.w) X.A X.env xe → MSs (X.tr pn xe) W body m) :
    MS X Wx (.Try body [.ExceptHandler (some (.Name "ClaimError" np)) (some "error") [
      .If (.Call (.Name "isinstance" i1) [.Name "error" i2, .Name "BadEntry" i3] [] i4) [.Return (some (.Attribute (.Name "error" g1) "place" g2)) g3] [] i5,
      .Return (some (.Subscript (.List [.Constant (.str "other") j1 s1, .Constant (.str "kept") j2 s2] s3) (.Call (.Name "int" g4) [.Call (.Name "isinstance" g5) [.Name "error" g6, .Name "BadState" g7] [] g8] [] g9) h1)) h2] pos'] [] [] pos) (sTryR 2 cm_told m f_told) := by
  obtain ⟨ad, hbase, hx⟩ := T.hf
  obtain ⟨mE, cE, fE, xE, kE⟩ := hx "BadEntry" (by simp)
  obtain ⟨mS, cS, fS, xS, kS⟩ := hx "BadState" (by simp)
  have hno : PySem.W.findIn X.K (.ref (ad "BadEntry")) "place" = some none := by
    obtain ⟨C, _, _, q, _, z⟩ := T.y_BadEntry
    rw [mE] at q; cases q; exact z
  have gl : ∀ x : Str, (defScope s__law_told).names.lookup x = some .globalImplicit → Gl X x := fun x h => by
    show X.env.scope.names.lookup x = _
    rw [hsc]; exact h
  have lo : X.env.scope.names.lookup ("error" : Str) = some .local := by rw [hsc]; rfl
  have d1 : decide (("BadEntry" : Str) = "BadEntry") = true := by decide +kernel
  have d2 : decide (("BadState" : Str) = "BadEntry") = false := by decide +kernel
  have d3 : decide (("BadState" : Str) = "BadState") = true := by decide +kernel
  have kEE := kE "BadEntry" (by simp)
  have kSE := kS "BadEntry" (by simp)
  have kSS := kS "BadState" (by simp)
  rw [d1] at kEE
  rw [d2] at kSE
  rw [d3] at kSS
  refine ms_tryR (c := .ref (ad "ClaimError")) (i := 2) (ts := fun a cls d => tSeq (tIfS (tB (tCB (rIsX X.K cls d a) (tCons (tVar 2) (tCons (tC (.ref (ad "BadEntry"))) tNil)))) (tSeq (tRet (tXf a cls d (ad "BadEntry") "place" (tVar 2))) tNext) tNext)
      (tSeq (tRet (tOp (rIxL X.K) (tLst (tCons (tC (.str "other")) (tCons (tC (.str "kept")) tNil))) (tCB (fun xs H Q => (∃ i, xs = [.int i] ∧ Q (.int i) H) ∨ ∃ k, xs = [.bl k] ∧ Q (.int (if k then 1 else 0)) H) (tCons (tCB (rIsX X.K cls d a) (tCons (tVar 2) (tCons (tC (.ref (ad "BadState"))) tNil))) tNil)))) tNext))
    hs hf (by rw [hN]; decide) (by rw [hN]; rfl) lo ⟨gl _ rfl, by decide, .inl hbase⟩ tk hb (fun a oe cls d pn hz hfl => ?_) (fun y b C hc hm => ?_) (fun a cls d D σ H y φ M v R r ha hσ hc hv hrt => ?_)
  · refine pss_cons (ps_if (pt_val (pe_callB (call_isX hz hfl) (gl _ rfl) T.n_isinstance (by decide +kernel) (pa_cons (pe_var (i := 2) (by show X.N[2]? = _; rw [hN]; rfl) (.inl lo)) (pa_cons (pe_glob (gl _ rfl) mE rfl) pa_nil)))) (pss_cons (ps_ret (pe_xf fE hno hz hfl (pe_var (i := 2) (by show X.N[2]? = _; rw [hN]; rfl) (.inl lo)))) pss_nil) pss_nil) (pss_cons (ps_ret ?_) pss_nil)
    exact pe_ix ix_list (pe_lst (pa_cons pe_str (pa_cons pe_str pa_nil))) (pe_callTy call_int1 (gl _ rfl) T.n_int (by decide +kernel) (pa_cons (pe_callB (call_isX hz hfl) (gl _ rfl) T.n_isinstance (by decide +kernel) (pa_cons (pe_var (i := 2) (by show X.N[2]? = _; rw [hN]; rfl) (.inl lo)) (pa_cons (pe_glob (gl _ rfl) mS rfl) pa_nil))) pa_nil)) (fun _ _ => rfl)
  · unfold cm_told at hc
    split at hc
    · rename_i e; subst e; cases hc; rw [mE] at hm; cases hm; exact xE
    · split at hc
      · rename_i e; subst e; cases hc; rw [mS] at hm; cases hm; exact xS
      · cases hc
  · obtain ⟨C, hC, rfl, hd⟩ := r
    unfold cm_told at hc
    unfold f_told at hv
    have hdd : d = none ∨ ∃ dd fs, d = some dd ∧ H dd = some (.xd fs) := by
      rcases hd with ⟨_, hd⟩ | ⟨dd, gs, hd, hg, _⟩
      · exact .inl hd
      · exact .inr ⟨dd, gs, hd, hg⟩
    split at hc
    · rename_i e
      rw [if_pos e] at hv
      rw [e, mE] at hC
      cases hC
      refine ⟨_, hσ, _, .ref _, _, true, rfl, rfl, fun _ h => h, cE, kEE, hdd, true, rfl, ?_⟩
      dsimp only; rw [if_pos rfl]
      split at hv
      · rename_i n w hfs
        split at hv
        · rename_i hn
          cases hv
          subst hn
          rcases hd with ⟨h1, _⟩ | ⟨dd, gs, hd, hg, hm, hD⟩
          · rw [hfs] at h1; cases h1
          · rw [hfs] at hm hD
            match gs, hm, hD, hg with
            | [(n', u)], hm, hD, hg =>
              simp only [List.map_cons, List.map_nil, List.cons.injEq, and_true] at hm
              subst hm
              cases hD with
              | cons hu _ =>
                refine ⟨_, hσ, rfl, rfl, dd, _, u, hd, hg, ?_, hrt φ H u R .refl .refl hu⟩
                simp [List.lookup]
        · cases hv
      · cases hv
    · rename_i e
      split at hc
      · rename_i e2
        rw [if_neg e, if_pos e2] at hv
        cases hv
        rw [e2, mS] at hC
        cases hC
        refine ⟨_, hσ, _, .ref _, _, false, rfl, rfl, fun _ h => h, cS, kSE, hdd, false, rfl, ?_⟩
        dsimp only; rw [if_neg Bool.false_ne_true]
        refine ⟨by show 2 ≤ sizeLine; rw [sizeLine_eq]; omega, fun p np => ?_⟩
        have hdd2 : d = none ∨ ∃ dd fs, d = some dd ∧ upd H p (.lst [.str "other", .str "kept"]) dd = some (.xd fs) := by
          rcases hdd with h | ⟨dd, fs, h1, h2⟩
          · exact .inl h
          · exact .inr ⟨dd, fs, h1, by rw [upd_ne (ne_of_none h2 np)]; exact h2⟩
        refine ⟨_, hσ, _, .ref _, _, true, rfl, rfl, fun _ h => h, cS, kSS, hdd2, .inr ⟨true, rfl, ?_⟩⟩
        refine ⟨p, _, 1, _, rfl, rfl, .inl (.inl upd_same), rfl, ?_⟩
        exact hrt φ _ _ (R.other np) .refl (.laid np) (.str _ (by decide +kernel))
      · cases hc

theorem t__law_told (T : Txt P K mg) : FnT P w K mg base "_law_told" 5 m__law_told := .mk (k := 4) (N := ["program", "thing", "error"]) (ps := ["program", "thing"]) T.d__law_told sc__law_told bd__law_told <| fun f cdv A outer s H E hr => by
  have tk := takes_of (X := cxOf (L2.CX P w) P w K mg base ["program", "thing", "error"] "_law_told" (defScope s__law_told) f cdv A outer s H E) (E := E) rfl rfl rfl rfl
  exact (mss_cons (tr_told T rfl rfl rfl rfl tk (fun W pn xe tk _ => (mss_cons (ms_ret (me_fn (t_check_call T) hr (by rfl) tk (ma_cons (me_var 0) (ma_cons (me_var 1) ma_nil))))
  mss_nil)))
  mss_nil)
theorem sc__law_spoilt : FnScope ["box", "call", "word", "name", "args", "outside", "odd", "kind", "place"] ["box", "call"] (defScope s__law_spoilt) := ⟨rfl, rfl, rfl, by decide +kernel, rfl, by decide +kernel, by decide +kernel⟩
theorem bd__law_spoilt : BindsOk "_law_spoilt" s__law_spoilt ["box", "call"] := fun _ _ _ _ _ _ us hl => match us, hl with | [_, _], _ => rfl
theorem t__law_spoilt (T : Txt P K mg) : FnT P w K mg base "_law_spoilt" 3 m__law_spoilt := .mk (k := 2) (N := ["box", "call", "word", "name", "args", "outside", "odd", "kind", "place"]) (ps := ["box", "call"]) T.d__law_spoilt sc__law_spoilt bd__law_spoilt <| fun f cdv A outer s H E hr => by
  have tk := takes_of (X := cxOf (L2.CX P w) P w K mg base ["box", "call", "word", "name", "args", "outside", "odd", "kind", "place"] "_law_spoilt" (defScope s__law_spoilt) f cdv A outer s H E) (E := E) rfl rfl rfl rfl
  exact (mss_cons (ms_asg (me_var 1) (mg_tup rfl (pgs_cons' (pg_name (i := 2) sc__law_spoilt.nd rfl (by first | exact Or.inl rfl | exact Or.inr rfl)) (pgs_cons' (pg_name (i := 3) sc__law_spoilt.nd rfl (by first | exact Or.inl rfl | exact Or.inr rfl)) (pgs_cons' (pg_name (i := 4) sc__law_spoilt.nd rfl (by first | exact Or.inl rfl | exact Or.inr rfl)) (pgs_cons' (pg_name (i := 5) sc__law_spoilt.nd rfl (by first | exact Or.inl rfl | exact Or.inr rfl)) pgs_nil'))))))
  (mss_cons (ms_set 6 sc__law_spoilt.nd (me_fn (t__law_pick T) hr (by rfl) tk (ma_cons (me_var 0) (ma_cons (me_lst (ma_cons me_none (ma_cons me_bool (ma_cons me_str (ma_cons (me_tup ma_nil) (ma_cons (me_tup (ma_cons me_bool ma_nil)) (ma_cons (me_lst (ma_cons me_int ma_nil)) (ma_cons (me_tup (ma_cons me_int (ma_cons me_none ma_nil))) (ma_cons (me_tup (ma_cons (me_tup (ma_cons me_int ma_nil)) ma_nil)) (ma_cons me_str (ma_cons me_int ma_nil))))))))))) ma_nil))))
  (mss_cons (ms_set 7 sc__law_spoilt.nd (me_fn (t__law_draw T) hr (by rfl) tk (ma_cons (me_var 0) (ma_cons me_int ma_nil))))
  (mss_cons (ms_set 8 sc__law_spoilt.nd (me_fn (t__law_draw T) hr (by rfl) tk (ma_cons (me_var 0) (ma_cons (me_op or_add (me_callB cr_len (by rfl) T.n_len (ma_cons (me_var 4) ma_nil)) me_int) ma_nil))))
  (mss_cons (ms_if (mt_cmp (or_eq hr) (me_var 7) me_int)
  (mss_cons (ms_ret (me_fn (t__law_pick T) hr (by rfl) tk (ma_cons (me_var 0) (ma_cons (me_lst (ma_cons me_none (ma_cons (me_tup ma_nil) (ma_cons (me_sl (me_var 1) mp_none (mp_some me_int)) (ma_cons (me_op or_add (me_var 1) (me_tup (ma_cons me_int ma_nil))) (ma_cons (me_callTy cr_list (by rfl) T.n_list (ma_cons (me_var 1) ma_nil)) (ma_cons me_str (ma_cons (me_op or_add (me_tup (ma_cons me_str ma_nil)) (me_sl (me_var 1) (mp_some me_int) mp_none)) (ma_cons (me_op or_add (me_tup (ma_cons me_int ma_nil)) (me_sl (me_var 1) (mp_some me_int) mp_none)) ma_nil))))))))) ma_nil))))
  mss_nil)
  mss_nil)
  (mss_cons (ms_if (mt_cmp (or_eq hr) (me_var 7) me_int)
  (mss_cons (ms_ret (me_tup (ma_cons (me_var 2) (ma_cons (me_fn (t__law_pick T) hr (by rfl) tk (ma_cons (me_var 0) (ma_cons (me_lst (ma_cons me_str (ma_cons me_str (ma_cons me_str (ma_cons me_none (ma_cons me_int (ma_cons (me_tup (ma_cons me_str ma_nil)) ma_nil))))))) ma_nil))) (ma_cons (me_var 4) (ma_cons (me_var 5) ma_nil))))))
  mss_nil)
  mss_nil)
  (mss_cons (ms_if (mt_cmp (or_eq hr) (me_var 7) me_int)
  (mss_cons (ms_ret (me_tup (ma_cons (me_var 2) (ma_cons (me_var 3) (ma_cons (me_op or_add (me_sl (me_var 4) mp_none (mp_some (me_var 8))) (me_sl (me_var 4) (mp_some (me_op or_add (me_var 8) me_int)) mp_none)) (ma_cons (me_var 5) ma_nil))))))
  mss_nil)
  mss_nil)
  (mss_cons (ms_if (mt_cmp (or_eq hr) (me_var 7) me_int)
  (mss_cons (ms_ret (me_tup (ma_cons (me_var 2) (ma_cons (me_var 3) (ma_cons (me_op or_add (me_op or_add (me_sl (me_var 4) mp_none (mp_some (me_var 8))) (me_tup (ma_cons (me_var 6) ma_nil))) (me_sl (me_var 4) (mp_some (me_op or_add (me_var 8) me_int)) mp_none)) (ma_cons (me_var 5) ma_nil))))))
  mss_nil)
  mss_nil)
  (mss_cons (ms_if (mt_cmp (or_eq hr) (me_var 7) me_int)
  (mss_cons (ms_ret (me_tup (ma_cons (me_var 2) (ma_cons (me_var 3) (ma_cons (me_fn (t__law_pick T) hr (by rfl) tk (ma_cons (me_var 0) (ma_cons (me_lst (ma_cons me_none (ma_cons (me_callTy cr_list (by rfl) T.n_list (ma_cons (me_var 4) ma_nil)) (ma_cons (me_op or_add (me_var 4) (me_tup (ma_cons me_int ma_nil))) ma_nil)))) ma_nil))) (ma_cons (me_var 5) ma_nil))))))
  mss_nil)
  mss_nil)
  (mss_cons (ms_if (mt_cmp (or_eq hr) (me_var 7) me_int)
  (mss_cons (ms_ret (me_tup (ma_cons (me_var 2) (ma_cons (me_var 3) (ma_cons (me_var 4) (ma_cons (me_fn (t__law_pick T) hr (by rfl) tk (ma_cons (me_var 0) (ma_cons (me_lst (ma_cons me_none (ma_cons (me_lst ma_nil) (ma_cons (me_tup (ma_cons me_bool ma_nil)) (ma_cons (me_tup (ma_cons me_str ma_nil)) (ma_cons me_int (ma_cons (me_tup (ma_cons me_int (ma_cons (me_tup (ma_cons me_int ma_nil)) ma_nil))) ma_nil))))))) ma_nil))) ma_nil))))))
  mss_nil)
  mss_nil)
  (mss_cons (ms_ret (me_var 1))
  mss_nil)))))))))))
theorem sc__law_eight : FnScope ["box", "names", "kinds", "heads", "name", "params", "k", "functions", "opens"] ["box"] (defScope s__law_eight) := ⟨rfl, rfl, rfl, by decide +kernel, rfl, by decide +kernel, by decide +kernel⟩
theorem bd__law_eight : BindsOk "_law_eight" s__law_eight ["box"] := fun _ _ _ _ _ _ us hl => match us, hl with | [_], _ => rfl
theorem t__law_eight (T : Txt P K mg) : FnT P w K mg base "_law_eight" 12 m__law_eight := .mk (k := 11) (N := ["box", "names", "kinds", "heads", "name", "params", "k", "functions", "opens"]) (ps := ["box"]) T.d__law_eight sc__law_eight bd__law_eight <| fun f cdv A outer s H E hr => by
  have tk := takes_of (X := cxOf (L2.CX P w) P w K mg base ["box", "names", "kinds", "heads", "name", "params", "k", "functions", "opens"] "_law_eight" (defScope s__law_eight) f cdv A outer s H E) (E := E) rfl rfl rfl rfl
  exact (mss_cons (ms_set 1 sc__law_eight.nd (me_lst (ma_cons me_str (ma_cons me_str (ma_cons me_str (ma_cons me_str (ma_cons me_str (ma_cons me_str (ma_cons me_str (ma_cons me_str ma_nil))))))))))
  (mss_cons (ms_set 2 sc__law_eight.nd (me_fn (t__law_pick T) hr (by rfl) tk (ma_cons (me_var 0) (ma_cons (me_lst (ma_cons (me_lst (ma_cons me_str (ma_cons me_str (ma_cons me_str (ma_cons me_str (ma_cons me_str ma_nil)))))) (ma_cons (me_op or_mul (me_lst (ma_cons me_str ma_nil)) me_int) (ma_cons (me_lst (ma_cons me_str (ma_cons me_str (ma_cons me_str (ma_cons me_str (ma_cons me_str ma_nil)))))) ma_nil)))) ma_nil))))
  (mss_cons (ms_set 3 sc__law_eight.nd (me_lst ma_nil))
  (mss_cons (ms_for (passes_of rfl) rfl (mi_seq (me_var 1)) (mg_nm (pg_name (i := 4) sc__law_eight.nd rfl (by first | exact Or.inl rfl | exact Or.inr rfl)))
  (mss_cons (ms_set 5 sc__law_eight.nd (me_tup ma_nil))
  (mss_cons (ms_for (passes_of rfl) rfl (mi_range1 (by rfl) T.n_range me_int) (mg_nm (pg_name (i := 6) sc__law_eight.nd rfl (by first | exact Or.inl rfl | exact Or.inr rfl)))
  (mss_cons (ms_set 5 sc__law_eight.nd (me_op or_add (me_var 5) (me_tup (ma_cons (me_tup (ma_cons (me_gc (me_ix (xr_ix hr) (me_lst (ma_cons me_str (ma_cons me_str (ma_cons me_str (ma_cons me_str (ma_cons me_str ma_nil)))))) (me_var 6))) (ma_cons (me_ix (xr_ix hr) (me_var 2) (me_var 6)) ma_nil))) ma_nil))))
  mss_nil))
  (mss_cons (ms_expr (me_append (me_var 3) (me_tup (ma_cons (me_var 4) (ma_cons (me_var 5) ma_nil)))))
  mss_nil))))
  (mss_cons (ms_set 7 sc__law_eight.nd (me_gc (me_callTy cr_tuple (by rfl) T.n_tuple (ma_cons (me_comp rfl sc__law_eight.nd (mi_seq (me_var 3)) (blkOk_by (own := [("name", 4), ("params", 5)]) (by kernel_rfl)) (fun _ _ _ _ _ => (mg_tup rfl (pgs_cons' (pg_name (i := 4) sc__law_eight.nd rfl (by first | exact Or.inl rfl | exact Or.inr rfl)) (pgs_cons' (pg_name (i := 5) sc__law_eight.nd rfl (by first | exact Or.inl rfl | exact Or.inr rfl)) pgs_nil')))) (fun _ _ _ _ _ => mts_nil) (fun _ _ _ _ _ => (me_tup (ma_cons me_str (ma_cons (me_var 4) (ma_cons (me_var 5) (ma_cons (me_fn (t__law_body T 6) hr (by rfl) takes0 (ma_cons (me_var 0) (ma_cons (me_var 3) (ma_cons (me_callTy (cr_dict2 (by rfl)) (by rfl) T.n_dict (ma_cons (me_var 5) ma_nil)) (ma_cons me_int ma_nil))))) ma_nil))))))) ma_nil))))
  (mss_cons (ms_set 8 sc__law_eight.nd (me_gc (me_callTy cr_tuple (by rfl) T.n_tuple (ma_cons (me_comp rfl sc__law_eight.nd (mi_seq (me_var 3)) (blkOk_by (own := [("name", 4), ("params", 5)]) (by kernel_rfl)) (fun _ _ _ _ _ => (mg_tup rfl (pgs_cons' (pg_name (i := 4) sc__law_eight.nd rfl (by first | exact Or.inl rfl | exact Or.inr rfl)) (pgs_cons' (pg_name (i := 5) sc__law_eight.nd rfl (by first | exact Or.inl rfl | exact Or.inr rfl)) pgs_nil')))) (fun _ _ _ _ _ => mts_nil) (fun _ _ _ _ _ => (me_tup (ma_cons (me_var 4) (ma_cons (me_fn (t__law_promises T) hr (by rfl) takes0 (ma_cons (me_var 0) (ma_cons me_int ma_nil))) ma_nil))))) ma_nil))))
  (mss_cons (ms_ret (me_tup (ma_cons me_str (ma_cons (me_var 7) (ma_cons (me_var 8) ma_nil)))))
  mss_nil)))))))
theorem sc_law : FnScope ["script", "box", "turn", "program", "time", "thing"] ["script"] (defScope s_law) := ⟨rfl, rfl, rfl, by decide +kernel, rfl, by decide +kernel, by decide +kernel⟩
theorem bd_law : BindsOk "law" s_law ["script"] := fun _ _ _ _ _ _ us hl => match us, hl with | [_], _ => rfl
theorem t_law (T : Txt P K mg) : FnP P w K mg base "law" ["script"] 14 m_law := .mk (k := 13) (N := ["script", "box", "turn", "program", "time", "thing"]) (ps := ["script"]) T.d_law sc_law bd_law <| fun f cdv A outer s H E hr => by
  have tk := takes_of (X := cxOf (L2.CX P w) P w K mg base ["script", "box", "turn", "program", "time", "thing"] "law" (defScope s_law) f cdv A outer s H E) (E := E) rfl rfl rfl rfl
  exact (mss_cons (ms_set 1 sc_law.nd (me_lst (ma_cons (me_fn (t__law_digits T) hr (by rfl) tk (ma_cons (me_var 0) (ma_cons me_int (ma_cons me_int ma_nil)))) (ma_cons me_int ma_nil))))
  (mss_cons (ms_for (passes_of rfl) rfl (mi_range1 (by rfl) T.n_range me_int) (mg_nm (pg_name (i := 2) sc_law.nd rfl (by first | exact Or.inl rfl | exact Or.inr rfl)))
  (mss_cons (ms_set 3 sc_law.nd (me_fn (t__law_program T) hr (by rfl) tk (ma_cons (me_var 1) (ma_cons me_int ma_nil))))
  (mss_cons (ms_if (mt_cmp (or_eq hr) (me_fn (t__law_draw T) hr (by rfl) tk (ma_cons (me_var 1) (ma_cons me_int ma_nil))) me_int)
  (mss_cons (ms_set 3 sc_law.nd (me_fn (t__law_eight T) hr (by rfl) tk (ma_cons (me_var 1) ma_nil)))
  mss_nil)
  mss_nil)
  (mss_cons (ms_for (passes_of rfl) rfl (mi_range1 (by rfl) T.n_range me_int) (mg_nm (pg_name (i := 4) sc_law.nd rfl (by first | exact Or.inl rfl | exact Or.inr rfl)))
  (mss_cons (ms_set 5 sc_law.nd (me_fn (t__law_spoilt T) hr (by rfl) tk (ma_cons (me_var 1) (ma_cons (me_fn (t__law_call T) hr (by rfl) tk (ma_cons (me_var 1) (ma_cons (me_var 3) ma_nil))) ma_nil))))
  (mss_cons (ms_if (mt_not (mt_val (me_fn (t__law_same T) hr (by rfl) tk (ma_cons (me_fn (t__law_told T) hr (by rfl) tk (ma_cons (me_var 3) (ma_cons (me_var 5) ma_nil))) (ma_cons (me_fn (t__law_due T) hr (by rfl) tk (ma_cons (me_var 3) (ma_cons (me_var 5) ma_nil))) ma_nil)))))
  (mss_cons (ms_ret me_bool)
  mss_nil)
  mss_nil)
  mss_nil)))
  mss_nil))))
  (mss_cons (ms_ret me_bool)
  mss_nil)))
end
end Wk
end

section
set_option maxHeartbeats 0
namespace Wk
open PySem PySem.Spec PyProof.Rows L2 NdefX Mi Sem
def hfn : List He.FnD := [⟨("is_integer", none), "is_integer", "is_integer", defArgs s_is_integer, defBody s_is_integer, defScope s_is_integer⟩,
  ⟨("is_name", none), "is_name", "is_name", defArgs s_is_name, defBody s_is_name, defScope s_is_name⟩,
  ⟨("index_of", none), "index_of", "index_of", defArgs s_index_of, defBody s_index_of, defScope s_index_of⟩,
  ⟨("open_of", none), "open_of", "open_of", defArgs s_open_of, defBody s_open_of, defScope s_open_of⟩,
  ⟨("are_integers", none), "are_integers", "are_integers", defArgs s_are_integers, defBody s_are_integers, defScope s_are_integers⟩,
  ⟨("fits", none), "fits", "fits", defArgs s_fits, defBody s_fits, defScope s_fits⟩,
  ⟨("sizes_of", none), "sizes_of", "sizes_of", defArgs s_sizes_of, defBody s_sizes_of, defScope s_sizes_of⟩,
  ⟨("are_kept", none), "are_kept", "are_kept", defArgs s_are_kept, defBody s_are_kept, defScope s_are_kept⟩,
  ⟨("check_call", none), "check_call", "check_call", defArgs s_check_call, defBody s_check_call, defScope s_check_call⟩,
  ⟨("_law_cell", none), "_law_cell", "_law_cell", defArgs s__law_cell, defBody s__law_cell, defScope s__law_cell⟩,
  ⟨("_law_digits", none), "_law_digits", "_law_digits", defArgs s__law_digits, defBody s__law_digits, defScope s__law_digits⟩,
  ⟨("_law_draw", none), "_law_draw", "_law_draw", defArgs s__law_draw, defBody s__law_draw, defScope s__law_draw⟩,
  ⟨("_law_pick", none), "_law_pick", "_law_pick", defArgs s__law_pick, defBody s__law_pick, defScope s__law_pick⟩,
  ⟨("_law_ints", none), "_law_ints", "_law_ints", defArgs s__law_ints, defBody s__law_ints, defScope s__law_ints⟩,
  ⟨("_law_arrays", none), "_law_arrays", "_law_arrays", defArgs s__law_arrays, defBody s__law_arrays, defScope s__law_arrays⟩,
  ⟨("_law_term", none), "_law_term", "_law_term", defArgs s__law_term, defBody s__law_term, defScope s__law_term⟩,
  ⟨("_law_condition", none), "_law_condition", "_law_condition", defArgs s__law_condition, defBody s__law_condition, defScope s__law_condition⟩,
  ⟨("_law_args", none), "_law_args", "_law_args", defArgs s__law_args, defBody s__law_args, defScope s__law_args⟩,
  ⟨("_law_value", none), "_law_value", "_law_value", defArgs s__law_value, defBody s__law_value, defScope s__law_value⟩,
  ⟨("_law_body", none), "_law_body", "_law_body", defArgs s__law_body, defBody s__law_body, defScope s__law_body⟩,
  ⟨("_law_promises", none), "_law_promises", "_law_promises", defArgs s__law_promises, defBody s__law_promises, defScope s__law_promises⟩,
  ⟨("_law_drawn", none), "_law_drawn", "_law_drawn", defArgs s__law_drawn, defBody s__law_drawn, defScope s__law_drawn⟩,
  ⟨("_law_known", none), "_law_known", "_law_known", defArgs s__law_known, defBody s__law_known, defScope s__law_known⟩,
  ⟨("_law_program", none), "_law_program", "_law_program", defArgs s__law_program, defBody s__law_program, defScope s__law_program⟩,
  ⟨("_law_index", none), "_law_index", "_law_index", defArgs s__law_index, defBody s__law_index, defScope s__law_index⟩,
  ⟨("_law_same", none), "_law_same", "_law_same", defArgs s__law_same, defBody s__law_same, defScope s__law_same⟩,
  ⟨("_law_keeps", none), "_law_keeps", "_law_keeps", defArgs s__law_keeps, defBody s__law_keeps, defScope s__law_keeps⟩,
  ⟨("_law_call", none), "_law_call", "_law_call", defArgs s__law_call, defBody s__law_call, defScope s__law_call⟩,
  ⟨("_law_whole", none), "_law_whole", "_law_whole", defArgs s__law_whole, defBody s__law_whole, defScope s__law_whole⟩,
  ⟨("_law_row", none), "_law_row", "_law_row", defArgs s__law_row, defBody s__law_row, defScope s__law_row⟩,
  ⟨("_law_due", none), "_law_due", "_law_due", defArgs s__law_due, defBody s__law_due, defScope s__law_due⟩,
  ⟨("_law_told", none), "_law_told", "_law_told", defArgs s__law_told, defBody s__law_told, defScope s__law_told⟩,
  ⟨("_law_spoilt", none), "_law_spoilt", "_law_spoilt", defArgs s__law_spoilt, defBody s__law_spoilt, defScope s__law_spoilt⟩,
  ⟨("_law_eight", none), "_law_eight", "_law_eight", defArgs s__law_eight, defBody s__law_eight, defScope s__law_eight⟩,
  ⟨("law", none), "law", "law", defArgs s_law, defBody s_law, defScope s_law⟩]
def hfa : List He.Fa := [.glo "is_integer", .keep "is_integer", .glo "is_name", .keep "is_name", .glo "index_of", .keep "index_of", .glo "open_of", .keep "open_of", .glo "are_integers", .keep "are_integers", .glo "fits", .keep "fits", .glo "sizes_of", .keep "sizes_of", .glo "are_kept", .keep "are_kept", .glo "check_call", .keep "check_call", .glo "_law_cell", .keep "_law_cell", .glo "_law_digits", .keep "_law_digits", .glo "_law_draw", .keep "_law_draw", .glo "_law_pick", .keep "_law_pick", .glo "_law_ints", .keep "_law_ints", .glo "_law_arrays", .keep "_law_arrays", .glo "_law_term", .keep "_law_term", .glo "_law_condition", .keep "_law_condition", .glo "_law_args", .keep "_law_args", .glo "_law_value", .keep "_law_value", .glo "_law_body", .keep "_law_body", .glo "_law_promises", .keep "_law_promises", .glo "_law_drawn", .keep "_law_drawn", .glo "_law_known", .keep "_law_known", .glo "_law_program", .keep "_law_program", .glo "_law_index", .keep "_law_index", .glo "_law_same", .keep "_law_same", .glo "_law_keeps", .keep "_law_keeps", .glo "_law_call", .keep "_law_call", .glo "_law_whole", .keep "_law_whole", .glo "_law_row", .keep "_law_row", .glo "_law_due", .keep "_law_due", .glo "_law_told", .keep "_law_told", .glo "_law_spoilt", .keep "_law_spoilt", .glo "_law_eight", .keep "_law_eight", .glo "law", .keep "law", .free "bool", .free "dict", .free "int", .free "isinstance", .free "len", .free "list", .free "range", .free "repr", .free "sorted", .free "str", .free "super", .free "tuple", .int "MOST_LETTERS" 8, .str "LETTERS" "abcdefghijklmnopqrstuvwxyz", .glo "BadState", .exc "BadState", .glo "BadEntry", .noat "BadEntry" "place"]
abbrev Rw : PySem.W.OpenRow := PySem.W.OpenLaw.row PySem.Challenge.rw_claimfall_k21_calls_are_checked
def hxs : List MiH.XD := [⟨"BadEntry", "BadEntry.__init__", i_BadEntry⟩]
def hex : PySem.W.Frag → Bool := MiH.excsB ["BadEntry", "BadState"] "ClaimError"
theorem txt {K : Fr} {mg : Mg} {h : Heap} (KI : K.In h) (G : h.Ns mainGlobals mg) (cc : MiH.SaysM Rw.prog hfa hfn hxs hex K) : Txt Rw.prog K mg where
  d_is_integer := .of KI G cc.e 0 (d := ⟨("is_integer", none), "is_integer", "is_integer", defArgs s_is_integer, defBody s_is_integer, defScope s_is_integer⟩) rfl rfl rfl rfl
  d_is_name := .of KI G cc.e 1 (d := ⟨("is_name", none), "is_name", "is_name", defArgs s_is_name, defBody s_is_name, defScope s_is_name⟩) rfl rfl rfl rfl
  d_index_of := .of KI G cc.e 2 (d := ⟨("index_of", none), "index_of", "index_of", defArgs s_index_of, defBody s_index_of, defScope s_index_of⟩) rfl rfl rfl rfl
  d_open_of := .of KI G cc.e 3 (d := ⟨("open_of", none), "open_of", "open_of", defArgs s_open_of, defBody s_open_of, defScope s_open_of⟩) rfl rfl rfl rfl
  d_are_integers := .of KI G cc.e 4 (d := ⟨("are_integers", none), "are_integers", "are_integers", defArgs s_are_integers, defBody s_are_integers, defScope s_are_integers⟩) rfl rfl rfl rfl
  d_fits := .of KI G cc.e 5 (d := ⟨("fits", none), "fits", "fits", defArgs s_fits, defBody s_fits, defScope s_fits⟩) rfl rfl rfl rfl
  d_sizes_of := .of KI G cc.e 6 (d := ⟨("sizes_of", none), "sizes_of", "sizes_of", defArgs s_sizes_of, defBody s_sizes_of, defScope s_sizes_of⟩) rfl rfl rfl rfl
  d_are_kept := .of KI G cc.e 7 (d := ⟨("are_kept", none), "are_kept", "are_kept", defArgs s_are_kept, defBody s_are_kept, defScope s_are_kept⟩) rfl rfl rfl rfl
  d_check_call := .of KI G cc.e 8 (d := ⟨("check_call", none), "check_call", "check_call", defArgs s_check_call, defBody s_check_call, defScope s_check_call⟩) rfl rfl rfl rfl
  d__law_cell := .of KI G cc.e 9 (d := ⟨("_law_cell", none), "_law_cell", "_law_cell", defArgs s__law_cell, defBody s__law_cell, defScope s__law_cell⟩) rfl rfl rfl rfl
  d__law_digits := .of KI G cc.e 10 (d := ⟨("_law_digits", none), "_law_digits", "_law_digits", defArgs s__law_digits, defBody s__law_digits, defScope s__law_digits⟩) rfl rfl rfl rfl
  d__law_draw := .of KI G cc.e 11 (d := ⟨("_law_draw", none), "_law_draw", "_law_draw", defArgs s__law_draw, defBody s__law_draw, defScope s__law_draw⟩) rfl rfl rfl rfl
  d__law_pick := .of KI G cc.e 12 (d := ⟨("_law_pick", none), "_law_pick", "_law_pick", defArgs s__law_pick, defBody s__law_pick, defScope s__law_pick⟩) rfl rfl rfl rfl
  d__law_ints := .of KI G cc.e 13 (d := ⟨("_law_ints", none), "_law_ints", "_law_ints", defArgs s__law_ints, defBody s__law_ints, defScope s__law_ints⟩) rfl rfl rfl rfl
  d__law_arrays := .of KI G cc.e 14 (d := ⟨("_law_arrays", none), "_law_arrays", "_law_arrays", defArgs s__law_arrays, defBody s__law_arrays, defScope s__law_arrays⟩) rfl rfl rfl rfl
  d__law_term := .of KI G cc.e 15 (d := ⟨("_law_term", none), "_law_term", "_law_term", defArgs s__law_term, defBody s__law_term, defScope s__law_term⟩) rfl rfl rfl rfl
  d__law_condition := .of KI G cc.e 16 (d := ⟨("_law_condition", none), "_law_condition", "_law_condition", defArgs s__law_condition, defBody s__law_condition, defScope s__law_condition⟩) rfl rfl rfl rfl
  d__law_args := .of KI G cc.e 17 (d := ⟨("_law_args", none), "_law_args", "_law_args", defArgs s__law_args, defBody s__law_args, defScope s__law_args⟩) rfl rfl rfl rfl
  d__law_value := .of KI G cc.e 18 (d := ⟨("_law_value", none), "_law_value", "_law_value", defArgs s__law_value, defBody s__law_value, defScope s__law_value⟩) rfl rfl rfl rfl
  d__law_body := .of KI G cc.e 19 (d := ⟨("_law_body", none), "_law_body", "_law_body", defArgs s__law_body, defBody s__law_body, defScope s__law_body⟩) rfl rfl rfl rfl
  d__law_promises := .of KI G cc.e 20 (d := ⟨("_law_promises", none), "_law_promises", "_law_promises", defArgs s__law_promises, defBody s__law_promises, defScope s__law_promises⟩) rfl rfl rfl rfl
  d__law_drawn := .of KI G cc.e 21 (d := ⟨("_law_drawn", none), "_law_drawn", "_law_drawn", defArgs s__law_drawn, defBody s__law_drawn, defScope s__law_drawn⟩) rfl rfl rfl rfl
  d__law_known := .of KI G cc.e 22 (d := ⟨("_law_known", none), "_law_known", "_law_known", defArgs s__law_known, defBody s__law_known, defScope s__law_known⟩) rfl rfl rfl rfl
  d__law_program := .of KI G cc.e 23 (d := ⟨("_law_program", none), "_law_program", "_law_program", defArgs s__law_program, defBody s__law_program, defScope s__law_program⟩) rfl rfl rfl rfl
  d__law_index := .of KI G cc.e 24 (d := ⟨("_law_index", none), "_law_index", "_law_index", defArgs s__law_index, defBody s__law_index, defScope s__law_index⟩) rfl rfl rfl rfl
  d__law_same := .of KI G cc.e 25 (d := ⟨("_law_same", none), "_law_same", "_law_same", defArgs s__law_same, defBody s__law_same, defScope s__law_same⟩) rfl rfl rfl rfl
  d__law_keeps := .of KI G cc.e 26 (d := ⟨("_law_keeps", none), "_law_keeps", "_law_keeps", defArgs s__law_keeps, defBody s__law_keeps, defScope s__law_keeps⟩) rfl rfl rfl rfl
  d__law_call := .of KI G cc.e 27 (d := ⟨("_law_call", none), "_law_call", "_law_call", defArgs s__law_call, defBody s__law_call, defScope s__law_call⟩) rfl rfl rfl rfl
  d__law_whole := .of KI G cc.e 28 (d := ⟨("_law_whole", none), "_law_whole", "_law_whole", defArgs s__law_whole, defBody s__law_whole, defScope s__law_whole⟩) rfl rfl rfl rfl
  d__law_row := .of KI G cc.e 29 (d := ⟨("_law_row", none), "_law_row", "_law_row", defArgs s__law_row, defBody s__law_row, defScope s__law_row⟩) rfl rfl rfl rfl
  d__law_due := .of KI G cc.e 30 (d := ⟨("_law_due", none), "_law_due", "_law_due", defArgs s__law_due, defBody s__law_due, defScope s__law_due⟩) rfl rfl rfl rfl
  d__law_told := .of KI G cc.e 31 (d := ⟨("_law_told", none), "_law_told", "_law_told", defArgs s__law_told, defBody s__law_told, defScope s__law_told⟩) rfl rfl rfl rfl
  d__law_spoilt := .of KI G cc.e 32 (d := ⟨("_law_spoilt", none), "_law_spoilt", "_law_spoilt", defArgs s__law_spoilt, defBody s__law_spoilt, defScope s__law_spoilt⟩) rfl rfl rfl rfl
  d__law_eight := .of KI G cc.e 33 (d := ⟨("_law_eight", none), "_law_eight", "_law_eight", defArgs s__law_eight, defBody s__law_eight, defScope s__law_eight⟩) rfl rfl rfl rfl
  d_law := .of KI G cc.e 34 (d := ⟨("law", none), "law", "law", defArgs s_law, defBody s_law, defScope s_law⟩) rfl rfl rfl rfl
  n_bool := He.free_ok KI G (cc.e.fact 70 (f := .free "bool") rfl)
  n_dict := He.free_ok KI G (cc.e.fact 71 (f := .free "dict") rfl)
  n_int := He.free_ok KI G (cc.e.fact 72 (f := .free "int") rfl)
  n_isinstance := He.free_ok KI G (cc.e.fact 73 (f := .free "isinstance") rfl)
  n_len := He.free_ok KI G (cc.e.fact 74 (f := .free "len") rfl)
  n_list := He.free_ok KI G (cc.e.fact 75 (f := .free "list") rfl)
  n_range := He.free_ok KI G (cc.e.fact 76 (f := .free "range") rfl)
  n_repr := He.free_ok KI G (cc.e.fact 77 (f := .free "repr") rfl)
  n_sorted := He.free_ok KI G (cc.e.fact 78 (f := .free "sorted") rfl)
  n_str := He.free_ok KI G (cc.e.fact 79 (f := .free "str") rfl)
  n_super := He.free_ok KI G (cc.e.fact 80 (f := .free "super") rfl)
  n_tuple := He.free_ok KI G (cc.e.fact 81 (f := .free "tuple") rfl)
  i_MOST_LETTERS := He.int_ok KI G (cc.e.fact 82 (f := .int "MOST_LETTERS" 8) rfl)
  s_LETTERS := He.str_ok KI G (cc.e.fact 83 (f := .str "LETTERS" "abcdefghijklmnopqrstuvwxyz") rfl)
  x_BadState := by
    have h := He.exc_ok (cc.e.fact 85 (f := .exc "BadState") rfl)
    exact ⟨_, He.glo_ok KI G (cc.e.fact 84 (f := .glo "BadState") rfl), h.1, h.2.1, h.2.2.1, h.2.2.2⟩
  y_BadEntry := by
    obtain ⟨fd, IC⟩ := cc.i ⟨"BadEntry", "BadEntry.__init__", i_BadEntry⟩ (by simp [hxs])
    exact ⟨_, _, fd, He.glo_ok KI G (cc.e.fact 86 (f := .glo "BadEntry") rfl), IC, He.noat_ok (cc.e.fact 87 (f := .noat "BadEntry" "place") rfl)⟩
  hf := MiH.excs_ok KI G cc.more
abbrev hk : PySem.W.Hook := MiH.hookM Rw.prog 4 hfa hfn hxs hex
def ob (s : PySem.W.SharedT) : MiH.AlM := MiH.obsM Rw.prog 4 hfa hfn hxs hex (HandSHeadRun.getT s)
theorem ob_eq (s : PySem.W.SharedT) : ob s = hk.obs s.abs := MiH.obsM_eq (HandSHeadRun.getT_eq s)
def loose0 : List PySem.Str := ["ClaimError", "BadEntry", "BadState", "is_integer", "LETTERS", "MOST_LETTERS", "is_name", "index_of", "open_of", "are_integers", "fits", "sizes_of", "are_kept", "check_call", "_law_cell", "_law_digits", "_law_draw", "_law_pick", "_law_ints", "_law_arrays", "_law_term", "_law_condition", "_law_args", "_law_value", "_law_body", "_law_drawn", "_law_promises", "_law_known", "_law_program", "_law_index"]
def loose1 : List PySem.Str := ["_law_same", "_law_keeps", "_law_call", "_law_whole", "_law_row", "_law_due", "_law_told", "_law_spoilt", "_law_eight"]
def loose : List PySem.Str := loose0 ++ loose1
theorem run (w : World) : HandSHeadRun.RunEq Rw (PySem.W.view Rw.prog [44]) hk ob 6000 loose w := by
  intro os
  kernel_rfl
end Wk
end

open PySem PySem.W PySem.Calls PyProof.Rows
set_option maxRecDepth 100000 in
set_option maxHeartbeats 0 in
theorem PySem.Challenge.cw_claimfall_k21_calls_are_checked_holds : PySem.Challenge.rw_claimfall_k21_calls_are_checked.Holds := by
  w_on; o_law
  refine HandSHeadRun.head_any (r := OpenLaw.row PySem.Challenge.rw_claimfall_k21_calls_are_checked) (q := view (OpenLaw.row PySem.Challenge.rw_claimfall_k21_calls_are_checked).prog [44]) (H := Wk.hk) (ob := Wk.ob) (M := 6000) (loose := Wk.loose) (d := HandSHeadRun.topDef (OpenLaw.row PySem.Challenge.rw_claimfall_k21_calls_are_checked).prog 44) (kwd := []) Wk.ob_eq
    (by kernel_rfl) (fun s => by kernel_rfl) Wk.run (by kernel_rfl) (by kernel_rfl) (by kernel_rfl) (by rfl) (by first | assumption | decide +kernel) (by decide +kernel) ⟨rfl, rfl, rfl, rfl, rfl, by decide +kernel⟩ ?hw ?hc
  case hw => w_witness2
  case hc =>
    refine Mi.law_end (l := PySem.Challenge.rw_claimfall_k21_calls_are_checked) (k := 14) (F := Sem.m_law) rfl (by kernel_rfl) ⟨rfl, by decide, by decide⟩ (by kernel_rfl) ?F Spec.law_ok
    intro w mg h Y G
    obtain ⟨K, KI, c⟩ := Y
    exact ⟨K, KI, fun base KB GB => Wk.t_law (Wk.txt KB GB c)⟩
