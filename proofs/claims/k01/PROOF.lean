import PyProof.Rows.All
import KE.SortData
import KE.DataCmp
import HandS.ForMost
import HandS.Exc
import HandS.TryOnly
import HandS.ExcOwn
import HandS.WordsExc
import HandS.Walk
import HandS.TupAny
import HandS.Zip
import HandS.Wide
import HandS.Flow
import HandS.Conv
import HandS.Style
import HandS.Deep
import HandS.Defaults
import HandS.AnyAll
import HandS.HeadHook1
import HandS.HeadHook2
import KE.GoesEnum
import HandS.CallSlots
import HandS.TupMul
import HandS.IsInst
import HandS.SetFor
import HandS.Small
import KE.DataMinMax
import PyProof.SumAny
import PyProof.Rows.SumGenD
import HandS.WordsDict
import HandS.TupLen
import KE.KExcSuper
import HandS.ExcInit
import HandS.ExcSuper
import HandS.ExcField
import PyProof.Rows.FStr
import KE.DataIsa
import HandS.Strs
import KE.KExcIs
import KE.KIsAll
import HandS.ListItems
import HandS.Nested
import HandS.Head2
import HandS.HeadHook4
import HandS.HeadWalk
import HandS.EndTab
import HandS.NestedK
import KE.KExcInit
import PySem.Challenge.RW_evercaught_k01_rows_that_can_be_juggled
set_option linter.all false
section
set_option Elab.async false
set_option linter.all false
/-! The pure meaning of the given text's constructs: data, results, environments of slots, combinators. No heap in sight. -/
namespace Py
open PySem PySem.W

/-- how a slot holds its datum: fz a value that never changes; own a list or dict of this frame's alone; io one of the caller's, handed in to be changed; lk one that is being walked -/
inductive Tg where
  | fz | own | io | lk
  deriving DecidableEq
abbrev Slot := Option (PyData × Tg)
abbrev Nv := List Slot
/-- a result: ok; an own exception raised (its class, its field's datum, the slots then); bad: outside of this meaning -/
inductive R (α : Type) where
  | ok (a : α)
  | ex (c : String) (d : PyData) (e : Nv)
  | bad
def bnd {α β : Type} (x : R α) (f : α → R β) : R β := match x with
  | .ok a => f a
  | .ex c d e => .ex c d e
  | .bad => .bad
@[simp] theorem bnd_ok {α β : Type} (a : α) (f : α → R β) : bnd (.ok a) f = f a := rfl
@[simp] theorem bnd_ex {α β : Type} (c d e) (f : α → R β) : bnd (.ex c d e) f = .ex c d e := rfl
@[simp] theorem bnd_bad {α β : Type} (f : α → R β) : bnd (.bad) f = .bad := rfl
theorem bnd_inv {α β : Type} {x : R α} {f : α → R β} {P : R β → Prop} (hok : ∀ a, x = .ok a → P (f a)) (hex : ∀ c d e, x = .ex c d e → P (.ex c d e)) (hbad : P .bad) : P (bnd x f) := by
  cases x with
  | ok a => exact hok a rfl
  | ex c d e => exact hex c d e rfl
  | bad => exact hbad
def ofO {α : Type} : Option α → R α
  | some a => .ok a
  | none => .bad
@[simp] theorem ofO_some {α : Type} (a : α) : ofO (some a) = .ok a := rfl
@[simp] theorem ofO_none {α : Type} : ofO (none : Option α) = .bad := rfl

/-- a slot -/
def gt : Nv → Nat → Slot
  | [], _ => none
  | a :: _, 0 => a
  | _ :: l, n + 1 => gt l n
@[simp] theorem gt_nil (n : Nat) : gt [] n = none := rfl
@[simp] theorem gt_zero (a : Slot) (l : Nv) : gt (a :: l) 0 = a := rfl
@[simp] theorem gt_succ (a : Slot) (l : Nv) (n : Nat) : gt (a :: l) (n + 1) = gt l n := rfl
theorem gt_set_self : ∀ (e : Nv) (i : Nat) (s : Slot), i < e.length → gt (e.set i s) i = s
  | _ :: _, 0, _, _ => rfl
  | _ :: l, i + 1, s, h => gt_set_self l i s (by simpa using h)
theorem gt_set_ne : ∀ (e : Nv) (i j : Nat) (s : Slot), i ≠ j → gt (e.set i s) j = gt e j
  | [], _, _, _, _ => rfl
  | _ :: _, 0, 0, _, h => absurd rfl h
  | _ :: _, 0, _ + 1, _, _ => rfl
  | _ :: _, _ + 1, 0, _, _ => rfl
  | _ :: l, i + 1, j + 1, s, h => gt_set_ne l i j s (by omega)
theorem gt_some_lt : ∀ {e : Nv} {i : Nat} {p : PyData × Tg}, gt e i = some p → i < e.length
  | _ :: _, 0, _, _ => by simp
  | _ :: l, i + 1, _, h => by
    have := gt_some_lt (e := l) h
    simpa using this

abbrev EV := Nv → R (PyData × Bool × Nv)
abbrev TV := Nv → R (Bool × Nv)
/-- an operand: a name's slot, looked at when the operation is done; or an expression -/
inductive Arg where
  | pk (i : Nat)
  | ev (f : EV)
def evA : List Arg → Nv → R (List PyData × Nv)
  | [], e => .ok ([], e)
  | .ev f :: r, e => bnd (f e) fun p => bnd (evA r p.2.2) fun q => .ok (p.1 :: q.1, q.2)
  | .pk i :: r, e => if (gt e i).isSome then bnd (evA r e) fun q => match gt q.2 i with
    | some (d, _) => .ok (d :: q.1, q.2)
    | none => .bad
    else .bad
/-- an operation on data: the datum, and whether it is a new object -/
abbrev Op := List PyData → Option (PyData × Bool)
def eOp (h : Op) (as : List Arg) : EV := fun e => bnd (evA as e) fun p => match h p.1 with
  | some (d, o) => .ok (d, o, p.2)
  | none => .bad
def eC (d : PyData) : EV := fun e => .ok (d, false, e)
/-- a name as a value: from now on its object never changes -/
def eV (i : Nat) : EV := fun e => match gt e i with
  | some (d, .fz) => .ok (d, false, e)
  | some (d, .own) => .ok (d, false, e.set i (some (d, .fz)))
  | _ => .bad
/-- a name as a value, for the last time -/
def eM (i : Nat) : EV := fun e => match gt e i with
  | some (d, .fz) => .ok (d, false, e)
  | some (d, .own) => .ok (d, true, e.set i none)
  | _ => .bad
def truth : PyData → Option Bool
  | .none => some false
  | .bool b => some b
  | .int i => some (i != 0)
  | .str z => if z.length ≤ 16777216 then some ((z.length : Int) != 0) else none
  | .list xs => some (!xs.isEmpty)
  | .tuple xs => some (!xs.isEmpty)
  | .dict _ => none
def asB : PyData → Option Bool
  | .bool b => some b
  | _ => none
/-- a test: of a comparison; of an operand's truth -/
def tOf (f : EV) : TV := fun e => bnd (f e) fun p => match asB p.1 with
  | some b => .ok (b, p.2.2)
  | none => .bad
def tAr (a : Arg) : TV := fun e => bnd (evA [a] e) fun p => match p.1 with
  | [d] => (match truth d with
    | some b => .ok (b, p.2)
    | none => .bad)
  | _ => .bad
def tAn (t u : TV) : TV := fun e => bnd (t e) fun p => if p.1 then u p.2 else .ok (false, p.2)
def tOr (t u : TV) : TV := fun e => bnd (t e) fun p => if p.1 then .ok (true, p.2) else u p.2
def tNo (t : TV) : TV := fun e => bnd (t e) fun p => .ok (!p.1, p.2)
def eIf (t : TV) (f g : EV) : EV := fun e => bnd (t e) fun p => if p.1 then f p.2 else g p.2
/-- and, or, not as values -/
def eAn (f g : EV) : EV := fun e => bnd (f e) fun p => match truth p.1 with
  | some true => g p.2.2
  | some false => .ok (p.1, false, p.2.2)
  | none => .bad
def eOr (f g : EV) : EV := fun e => bnd (f e) fun p => match truth p.1 with
  | some true => .ok (p.1, false, p.2.2)
  | some false => g p.2.2
  | none => .bad
def eNo (a : Arg) : EV := fun e => bnd (evA [a] e) fun p => match p.1 with
  | [d] => (match truth d with
    | some b => .ok (.bool (!b), false, p.2)
    | none => .bad)
  | _ => .bad
/-- what a call hands back: a value (new or not), and what became of the object handed in to be changed; or an exception -/
inductive CR where
  | ret (d : PyData) (o : Bool) (b : PyData)
  | ex (c : String) (d : PyData)
  | bad
abbrev FnV := List PyData → CR
/-- arguments that are values -/
def evV : List EV → Nv → R (List PyData × Nv)
  | [], e => .ok ([], e)
  | f :: r, e => bnd (f e) fun p => bnd (evV r p.2.2) fun q => .ok (p.1 :: q.1, q.2)
/-- the kind of a thing whose methods are called -/
def tyD : String → PyData → Bool
  | "str", .str _ => true
  | "list", .list _ => true
  | "dict", .dict _ => true
  | _, _ => false
/-- a slot's object that may be changed here -/
def muT : Tg → Bool
  | .own => true
  | .io => true
  | _ => false
/-- a change of the list or dict that slot i holds -/
abbrev Mt := PyData → List PyData → Option (PyData × PyData)
def eMt (T : String) (i : Nat) (h : Mt) (fs : List EV) : EV := fun e => match gt e i with
  | some (c0, _) => if tyD T c0 then bnd (evV fs e) fun p => (match gt p.2 i with
    | some (c, t) => if muT t then (match h c p.1 with
      | some (c', d) => .ok (d, false, p.2.set i (some (c', t)))
      | none => .bad) else .bad
    | none => .bad) else .bad
  | none => .bad
/-- a method that changes nothing: the receiver, values -/
def eMe (T : String) (h : Op) (f : EV) (fs : List EV) : EV := fun e => bnd (f e) fun p => if tyD T p.1 then bnd (evV fs p.2.2) fun q => (match h (p.1 :: q.1) with
  | some (d, o) => .ok (d, o, q.2)
  | none => .bad) else .bad
/-- the same, of a slot's object -/
def eMs (T : String) (h : Op) (i : Nat) (fs : List EV) : EV := fun e => match gt e i with
  | some (c0, _) => if tyD T c0 then bnd (evV fs e) fun p => (match gt p.2 i with
    | some (c, _) => (match h (c :: p.1) with
      | some (d, o) => .ok (d, o, p.2)
      | none => .bad)
    | none => .bad) else .bad
  | none => .bad
def eCall (m : FnV) (as : List EV) : EV := fun e => bnd (evV as e) fun p => match m p.1 with
  | .ret d o _ => .ok (d, o, p.2)
  | .ex c d => .ex c d p.2
  | .bad => .bad
/-- the first argument is slot i's object, handed in to be changed -/
def eCallI (m : FnV) (i : Nat) (as : List EV) : EV := fun e => if (gt e i).isSome then bnd (evV as e) fun p => match gt p.2 i with
  | some (c, .own) => (match m (c :: p.1) with
    | .ret d o b => .ok (d, o, p.2.set i (some (b, .own)))
    | _ => .bad)
  | some (c, .io) => (match m (c :: p.1) with
    | .ret d o b => .ok (d, o, p.2.set i (some (b, .io)))
    | _ => .bad)
  | _ => .bad
  else .bad

/-! ### statements -/
inductive Fl where
  | nx (e : Nv)
  | rt (d : PyData) (o : Bool) (e : Nv)
  | ct (e : Nv)
  | bk (e : Nv)
abbrev SV := Nv → R Fl
def sSeq : List SV → SV
  | [] => fun e => .ok (.nx e)
  | s :: r => fun e => bnd (s e) fun f => match f with
    | .nx e' => sSeq r e'
    | f => .ok f
/-- a target -/
abbrev GV := PyData → Bool → Nv → Option Nv
def gN (i : Nat) : GV := fun d o e => match gt e i with
  | some (_, .io) => none
  | some (_, .lk) => none
  | _ => if i < e.length then some (e.set i (some (d, if o then .own else .fz))) else none
def gTs : List GV → List PyData → Nv → Option Nv
  | [], [], e => some e
  | g :: gs, d :: ds, e => match g d false e with
    | some e' => gTs gs ds e'
    | none => none
  | _, _, _ => none
def gT (gs : List GV) : GV := fun d _ e => match d with
  | .tuple ds => gTs gs ds e
  | _ => none
def sAsg (g : GV) (f : EV) : SV := fun e => bnd (f e) fun p => match g p.1 p.2.1 p.2.2 with
  | some e' => .ok (.nx e')
  | none => .bad
/-- a, b = e1, e2: values with whether they are new -/
def evO : List EV → Nv → R (List (PyData × Bool) × Nv)
  | [], e => .ok ([], e)
  | f :: r, e => bnd (f e) fun p => bnd (evO r p.2.2) fun q => .ok ((p.1, p.2.1) :: q.1, q.2)
def stA : List Nat → List (PyData × Bool) → Nv → Option Nv
  | [], [], e => some e
  | i :: is, (d, o) :: ds, e => match gN i d o e with
    | some e' => stA is ds e'
    | none => none
  | _, _, _ => none
def sPar (is : List Nat) (fs : List EV) : SV := fun e => bnd (evO fs e) fun p => match stA is p.1 p.2 with
  | some e' => .ok (.nx e')
  | none => .bad
def sEx (f : EV) : SV := fun e => bnd (f e) fun p => .ok (.nx p.2.2)
/-- x op= e, for values that never change -/
def sAug (i : Nat) (h : Op) (a : Arg) : SV := fun e => bnd (evA [.pk i, a] e) fun p => match h p.1 with
  | some (d, o) => (match gN i d o p.2 with
    | some e' => .ok (.nx e')
    | none => .bad)
  | none => .bad
/-- x[k] = v, x a name -/
abbrev St3 := PyData → PyData → PyData → Option PyData
def sPut (i : Nat) (h : St3) (fv fk : EV) : SV := fun e => bnd (fv e) fun p => if (gt p.2.2 i).isSome then bnd (fk p.2.2) fun q => (match gt q.2.2 i with
  | some (c, t) => if muT t then (match h c q.1 p.1 with
    | some c' => .ok (.nx (q.2.2.set i (some (c', t))))
    | none => .bad) else .bad
  | none => .bad) else .bad
/-- x[k] op= v, x a name -/
def sPuA (i : Nat) (g : Op) (h : Op) (u : St3) (fk fv : EV) : SV := fun e => if (gt e i).isSome then bnd (fk e) fun q => (match gt q.2.2 i with
  | some (c, _) => (match g [c, q.1] with
    | some (x, false) => bnd (fv q.2.2) fun p => (match gt p.2.2 i with
      | some (c, t) => if muT t then (match h [x, p.1] with
        | some (z, false) => (match u c q.1 z with
          | some c' => .ok (.nx (p.2.2.set i (some (c', t))))
          | none => .bad)
        | _ => .bad) else .bad
      | none => .bad)
    | _ => .bad)
  | none => .bad) else .bad
def sRet (f : EV) : SV := fun e => bnd (f e) fun p => .ok (.rt p.1 p.2.1 p.2.2)
def sPass : SV := fun e => .ok (.nx e)
def sCont : SV := fun e => .ok (.ct e)
def sIf (t : TV) (a b : SV) : SV := fun e => bnd (t e) fun p => if p.1 then a p.2 else b p.2
/-- raise c(v): ok tells whether v's text can be made -/
def sRaise (c : String) (ok : PyData → Bool) (f : EV) : SV := fun e => bnd (f e) fun p => if ok p.1 then .ex c p.1 p.2.2 else .bad
def sRaise0 (c : String) : SV := fun e => .ex c .none e
/-- what is walked -/
abbrev IV := Nv → R (List PyData × Nv)
def forL (g : GV) (body : SV) : List PyData → Nv → R Fl
  | [], e => .ok (.nx e)
  | d :: ds, e => match g d false e with
    | some e1 => bnd (body e1) fun f => match f with
      | .nx e2 => forL g body ds e2
      | .ct e2 => forL g body ds e2
      | .bk e2 => .ok (.nx e2)
      | f => .ok f
    | none => .bad
def sFor (it : IV) (g : GV) (body : SV) : SV := fun e => bnd (it e) fun p => forL g body p.1 p.2
/-- over slot i's own object, which stands still meanwhile -/
def unlk (i : Nat) (d : PyData) (t : Tg) : Fl → Fl
  | .nx e => .nx (e.set i (some (d, t)))
  | .rt v o e => .rt v o (e.set i (some (d, t)))
  | .ct e => .ct (e.set i (some (d, t)))
  | .bk e => .bk (e.set i (some (d, t)))
def sForK (i : Nat) (its : PyData → Option (List PyData)) (g : GV) (body : SV) : SV := fun e => match gt e i with
  | some (d, .own) => (match its d with
    | some ds => bnd (forL g body ds (e.set i (some (d, .lk)))) fun f => .ok (unlk i d .own f)
    | none => .bad)
  | _ => .bad
def whlL (t : TV) (body : SV) : Nat → Nv → R Fl
  | 0, _ => .bad
  | n + 1, e => bnd (t e) fun p => if p.1 then bnd (body p.2) fun f => match f with
      | .nx e2 => whlL t body n e2
      | .ct e2 => whlL t body n e2
      | .bk e2 => .ok (.nx e2)
      | f => .ok f
    else .ok (.nx p.2)
def sWhl (n : Nat) (t : TV) (body : SV) : SV := whlL t body n

/-! ### comprehensions -/
def wipeE : Nv → List Nat → Nv
  | e, [] => e
  | e, v :: vs => (wipeE e vs).set v none
/-- the comprehension's own names hold nothing that may change -/
def calmAt (e : Nv) (vs : List Nat) : Bool := vs.all fun i => match gt e i with
  | none => true
  | some (_, .fz) => true
  | _ => false
def backE (e0 : Nv) (e : Nv) : List Nat → Nv
  | [] => e
  | v :: vs => (backE e0 e vs).set v (gt e0 v)
/-- nothing is raised within -/
def nox {α : Type} : R α → R α
  | .ex _ _ _ => .bad
  | x => x
@[simp] theorem nox_ok {α : Type} (a : α) : nox (.ok a) = .ok a := rfl
@[simp] theorem nox_bad {α : Type} : nox (.bad : R α) = .bad := rfl
@[simp] theorem nox_ex {α : Type} (c d e) : nox (.ex c d e : R α) = .bad := rfl
def lcL (vs : List Nat) (g : GV) (t : TV) (f : EV) : List PyData → List PyData → Nv → R (List PyData × Nv)
  | [], acc, e => .ok (acc, e)
  | d :: ds, acc, e => match g d false e with
    | some e1 => bnd (nox (t e1)) fun p => if p.1 then bnd (nox (f p.2)) fun q => if acc.length < 16777216 then lcL vs g t f ds (acc ++ [q.1]) (wipeE q.2.2 vs) else .bad
      else lcL vs g t f ds acc (wipeE p.2 vs)
    | none => .bad
def eLc (it : IV) (vs : List Nat) (g : GV) (t : TV) (f : EV) : EV := fun e => bnd (it e) fun p => if calmAt p.2 vs then
    bnd (lcL vs g t f p.1 [] (wipeE p.2 vs)) fun q => .ok (.list q.1, true, backE p.2 q.2 vs)
  else .bad
def tYs : TV := fun e => .ok (true, e)
/-- all, any of a generator expression -/
def allL (vs : List Nat) (g : GV) (t : TV) : List PyData → Nv → R (Bool × Nv)
  | [], e => .ok (true, e)
  | d :: ds, e => match g d false e with
    | some e1 => bnd (nox (t e1)) fun p => if p.1 then allL vs g t ds (wipeE p.2 vs) else .ok (false, wipeE p.2 vs)
    | none => .bad
def anyL (vs : List Nat) (g : GV) (t : TV) : List PyData → Nv → R (Bool × Nv)
  | [], e => .ok (false, e)
  | d :: ds, e => match g d false e with
    | some e1 => bnd (nox (t e1)) fun p => if p.1 then .ok (true, wipeE p.2 vs) else anyL vs g t ds (wipeE p.2 vs)
    | none => .bad

/-! ### defs -/
def ini (ds : List PyData) (n : Nat) : Nv := ds.map (fun d => some (d, Tg.fz)) ++ List.replicate (n - ds.length) none
def fin (x : R Fl) : CR := match x with
  | .ok (.nx _) => .ret .none false .none
  | .ok (.rt d o _) => .ret d o .none
  | .ex c d _ => .ex c d
  | _ => .bad
def fn (n k : Nat) (body : SV) : FnV := fun ds => if ds.length = k then fin (body (ini ds n)) else .bad
/-- the first parameter's object is the caller's, handed in to be changed -/
def iniI (ds : List PyData) (n : Nat) : Nv := match ds with
  | [] => []
  | b :: r => some (b, .io) :: ini r (n - 1)
def finI (x : R Fl) : CR := match x with
  | .ok (.nx e) => (match gt e 0 with
    | some (b, .io) => .ret .none false b
    | _ => .bad)
  | .ok (.rt d o e) => (match gt e 0 with
    | some (b, .io) => .ret d o b
    | _ => .bad)
  | _ => .bad
def fnI (n k : Nat) (body : SV) : FnV := fun ds => if ds.length = k then finI (body (iniI ds n)) else .bad
end Py
end
section
set_option Elab.async false
set_option linter.all false
set_option maxRecDepth 100000
/-! The tie between the pure meaning and the machine's abstract heap. -/
namespace Py
open PySem PySem.Spec PyProof.Rows L2

abbrev Fr := PySem.W.Frag
def Ext (F F' : Hp) : Prop := ∀ a o, F a = some o → F' a = some o
theorem Ext.refl (F : Hp) : Ext F F := fun _ _ h => h
theorem Ext.trans {F F' F'' : Hp} (h : Ext F F') (h' : Ext F' F'') : Ext F F'' := fun a o e => h' a o (h a o e)
theorem Ext.none {F F' : Hp} (h : Ext F F') {a : Addr} (e : F' a = none) : F a = none := by
  cases q : F a with
  | none => rfl
  | some o => rw [h a o q] at e; cases e
theorem Ext.upd {H : Hp} {a : Addr} {o : HO} (h : H a = Option.none) : Ext H (upd H a o) := fun b u e => by
  rw [upd_ne (ne_of_none e h)]; exact e

def kD : Key → PyData
  | .inl i => .int i
  | .inr x => .str x
/-- a dict whose keys are tuples: its datum begins with the pair (None, None) -/
def tD (k : List Key) : PyData := .tuple (k.map kD)
mutual
/-- v is the datum, all of whose objects stand in F -/
inductive Rp (K : Fr) (F : Hp) : V → PyData → Prop
  | non : Rp K F .non .none
  | bl (b : Bool) : Rp K F (.bl b) (.bool b)
  | int (i : Int) : Rp K F (.int i) (.int i)
  | str (x : Str) : Rp K F (.str x) (.str x)
  | lst {a : Addr} {xs : List V} {ds : List PyData} : SqL K F a xs → RpAll K F xs ds → Rp K F (.ref a) (.list ds)
  | tup {a : Addr} {xs : List V} {ds : List PyData} : F a = some (.tup xs) → RpAll K F xs ds → Rp K F (.ref a) (.tuple ds)
  | dK {a : Addr} {ks : List (Key × V)} {kvs : List (PyData × PyData)} : F a = some (.dK ks) → RpAll K F (ks.map (·.2)) (kvs.map (·.2)) → ks.map (fun p => kD p.1) = kvs.map (·.1) → Rp K F (.ref a) (.dict kvs)
  | dT {a : Addr} {ks : List (List Key × V)} {kvs : List (PyData × PyData)} : F a = some (.dT ks) → RpAll K F (ks.map (·.2)) (kvs.map (·.2)) → ks.map (fun p => tD p.1) = kvs.map (·.1) → Rp K F (.ref a) (.dict ((.none, .none) :: kvs))
inductive RpAll (K : Fr) (F : Hp) : List V → List PyData → Prop
  | nil : RpAll K F [] []
  | cons {v : V} {vs : List V} {d : PyData} {ds : List PyData} : Rp K F v d → RpAll K F vs ds → RpAll K F (v :: vs) (d :: ds)
end
theorem SqL.ext {K : Fr} {F F' : Hp} (h : Ext F F') {a : Addr} {xs : List V} (s : SqL K F a xs) : SqL K F' a xs := by
  rcases s with (s | ⟨o, s⟩) | s
  · exact .inl (.inl (h _ _ s))
  · exact .inl (.inr ⟨o, h _ _ s⟩)
  · exact .inr s
mutual
theorem Rp.ext {K : Fr} {F F' : Hp} (h : Ext F F') : ∀ {v : V} {d : PyData}, Rp K F v d → Rp K F' v d
  | _, _, .non => .non
  | _, _, .bl b => .bl b
  | _, _, .int i => .int i
  | _, _, .str x => .str x
  | _, _, .lst s r => .lst (SqL.ext h s) (RpAll.ext h r)
  | _, _, .tup s r => .tup (h _ _ s) (RpAll.ext h r)
  | _, _, .dK s r e => .dK (h _ _ s) (RpAll.ext h r) e
  | _, _, .dT s r e => .dT (h _ _ s) (RpAll.ext h r) e
theorem RpAll.ext {K : Fr} {F F' : Hp} (h : Ext F F') : ∀ {vs : List V} {ds : List PyData}, RpAll K F vs ds → RpAll K F' vs ds
  | _, _, .nil => .nil
  | _, _, .cons a b => .cons (Rp.ext h a) (RpAll.ext h b)
end
mutual
theorem Rp.dp {K : Fr} {F : Hp} : ∀ {v : V} {d : PyData}, Rp K F v d → d.canLay0 = true → Dp K F v d
  | _, _, .non, _ => .non
  | _, _, .bl b, _ => .bl b
  | _, _, .int i, _ => .int i
  | _, _, .str x, _ => .str x
  | _, _, .lst s r, h => .lst s (RpAll.dp r (by simpa [PyData.canLay0] using h))
  | _, _, .tup s r, h => .tup (SqT.of s) (RpAll.dp r (by simpa [PyData.canLay0] using h))
  | _, _, .dK s r e, h => by simp [PyData.canLay0] at h
  | _, _, .dT s r e, h => by simp [PyData.canLay0] at h
theorem RpAll.dp {K : Fr} {F : Hp} : ∀ {vs : List V} {ds : List PyData}, RpAll K F vs ds → PyData.canLayAll0 ds = true → DpAll K F vs ds
  | _, _, .nil, _ => .nil
  | _, _, .cons a b, h => by
    rw [PyData.canLayAll0, Bool.and_eq_true] at h
    exact .cons (Rp.dp a h.1) (RpAll.dp b h.2)
end
theorem RpAll.length {K : Fr} {F : Hp} : ∀ {vs : List V} {ds : List PyData}, RpAll K F vs ds → vs.length = ds.length
  | _, _, .nil => rfl
  | _, _, .cons _ b => by simp [RpAll.length b]
theorem RpAll.get {K : Fr} {F : Hp} : ∀ {vs : List V} {ds : List PyData} {i : Nat} {v : V}, RpAll K F vs ds → vs[i]? = some v → ∃ d, ds[i]? = some d ∧ Rp K F v d
  | _, _, _, _, .nil, e => by simp at e
  | _, _, 0, _, .cons a _, e => by simp at e; subst e; exact ⟨_, rfl, a⟩
  | _, _, i + 1, v, .cons _ b, e => by
    obtain ⟨d, h1, h2⟩ := RpAll.get (i := i) (v := v) b (by simpa using e)
    exact ⟨d, by simpa using h1, h2⟩
theorem RpAll.getD {K : Fr} {F : Hp} : ∀ {vs : List V} {ds : List PyData} {i : Nat} {d : PyData}, RpAll K F vs ds → ds[i]? = some d → ∃ v, vs[i]? = some v ∧ Rp K F v d
  | _, _, _, _, .nil, e => by simp at e
  | _, _, 0, _, .cons a _, e => by simp at e; subst e; exact ⟨_, rfl, a⟩
  | _, _, i + 1, v, .cons _ b, e => by
    obtain ⟨d, h1, h2⟩ := RpAll.getD (i := i) b (by simpa using e)
    exact ⟨d, by simpa using h1, h2⟩
theorem RpAll.append {K : Fr} {F : Hp} : ∀ {vs ws : List V} {ds es : List PyData}, RpAll K F vs ds → RpAll K F ws es → RpAll K F (vs ++ ws) (ds ++ es)
  | _, _, _, _, .nil, h => h
  | _, _, _, _, .cons a b, h => .cons a (RpAll.append b h)
theorem RpAll.take {K : Fr} {F : Hp} : ∀ {vs : List V} {ds : List PyData} (n : Nat), RpAll K F vs ds → RpAll K F (vs.take n) (ds.take n)
  | _, _, 0, _ => .nil
  | _, _, _ + 1, .nil => .nil
  | _, _, n + 1, .cons a b => .cons a (RpAll.take n b)
theorem RpAll.drop {K : Fr} {F : Hp} : ∀ {vs : List V} {ds : List PyData} (n : Nat), RpAll K F vs ds → RpAll K F (vs.drop n) (ds.drop n)
  | _, _, 0, h => h
  | _, _, _ + 1, .nil => .nil
  | _, _, n + 1, .cons _ b => RpAll.drop n b
theorem RpAll.set {K : Fr} {F : Hp} {v : V} {d : PyData} (r : Rp K F v d) : ∀ {vs : List V} {ds : List PyData} (n : Nat), RpAll K F vs ds → RpAll K F (vs.set n v) (ds.set n d)
  | _, _, _, .nil => .nil
  | _, _, 0, .cons _ b => .cons r b
  | _, _, n + 1, .cons a b => .cons a (RpAll.set r n b)
theorem RpAll.eraseIdx {K : Fr} {F : Hp} : ∀ {vs : List V} {ds : List PyData} (n : Nat), RpAll K F vs ds → RpAll K F (vs.eraseIdx n) (ds.eraseIdx n)
  | _, _, _, .nil => .nil
  | _, _, 0, .cons _ b => b
  | _, _, n + 1, .cons a b => .cons a (RpAll.eraseIdx n b)
theorem RpAll.reverse {K : Fr} {F : Hp} {vs : List V} {ds : List PyData} (h : RpAll K F vs ds) : RpAll K F vs.reverse ds.reverse := by
  induction vs generalizing ds with
  | nil => cases h; exact .nil
  | cons v vs ih => cases h with | cons a b => rw [List.reverse_cons, List.reverse_cons]; exact (ih b).append (.cons a .nil)
theorem RpAll.flat {K : Fr} {F : Hp} {vs : List V} {ds : List PyData} (h : RpAll K F vs ds) : ∀ k : Nat, RpAll K F (List.replicate k vs).flatten (List.replicate k ds).flatten
  | 0 => .nil
  | k + 1 => by
    rw [List.replicate_succ, List.replicate_succ, List.flatten_cons, List.flatten_cons]
    exact h.append (RpAll.flat h k)
theorem RpAll.ints {K : Fr} {F : Hp} : ∀ {vs : List V} {ns : List Int}, RpAll K F vs (ns.map .int) → vs = ns.map V.int
  | _, [], h => by cases h; rfl
  | _, n :: ns, h => by
    cases h with
    | cons a b => cases a; rw [RpAll.ints b]; rfl
theorem RpAll.of_ints {K : Fr} {F : Hp} : ∀ (ns : List Int), RpAll K F (ns.map V.int) (ns.map .int)
  | [] => .nil
  | _ :: ns => .cons (.int _) (RpAll.of_ints ns)

/-- an object that this frame may change: its parts stand in F -/
inductive Ob (K : Fr) (F H : Hp) (a : Addr) : PyData → Prop
  | lst {xs : List V} {ds : List PyData} : H a = some (.lst xs) → RpAll K F xs ds → Ob K F H a (.list ds)
  | dK {ks : List (Key × V)} {kvs : List (PyData × PyData)} : H a = some (.dK ks) → RpAll K F (ks.map (·.2)) (kvs.map (·.2)) → ks.map (fun p => kD p.1) = kvs.map (·.1) → Ob K F H a (.dict kvs)
  | dT {ks : List (List Key × V)} {kvs : List (PyData × PyData)} : H a = some (.dT ks) → RpAll K F (ks.map (·.2)) (kvs.map (·.2)) → ks.map (fun p => tD p.1) = kvs.map (·.1) → Ob K F H a (.dict ((.none, .none) :: kvs))
theorem Ob.ext {K : Fr} {F F' H H' : Hp} {a : Addr} {d : PyData} (o : Ob K F H a d) (h : Ext F F') (e : ∀ u, H a = some u → H' a = some u) : Ob K F' H' a d := by
  cases o with
  | lst x r => exact .lst (e _ x) (r.ext h)
  | dK x r k => exact .dK (e _ x) (r.ext h) k
  | dT x r k => exact .dT (e _ x) (r.ext h) k
theorem Ob.there {K : Fr} {F H : Hp} {a : Addr} {d : PyData} (o : Ob K F H a d) : ∃ u, H a = some u := by
  cases o with
  | lst x r => exact ⟨_, x⟩
  | dK x r k => exact ⟨_, x⟩
  | dT x r k => exact ⟨_, x⟩
/-- it never changes from now on -/
theorem Ob.rp {K : Fr} {F F' H : Hp} {a : Addr} {d : PyData} (o : Ob K F H a d) (e : Ext F F') (h : ∀ u, H a = some u → F' a = some u) : Rp K F' (.ref a) d := by
  cases o with
  | lst x r => exact .lst (SqL.of (h _ x)) (r.ext e)
  | dK x r k => exact .dK (h _ x) (r.ext e) k
  | dT x r k => exact .dT (h _ x) (r.ext e) k

/-- v reads as the datum at this moment -/
def Now (K : Fr) (F H : Hp) (v : V) (d : PyData) : Prop := Rp K F v d ∨ ∃ a, v = .ref a ∧ Ob K F H a d
theorem Now.rp {K : Fr} {F H : Hp} (h : Ext F H) {v : V} {d : PyData} (n : Now K F H v d) : Rp K H v d := by
  rcases n with n | ⟨a, rfl, o⟩
  · exact n.ext h
  · exact o.rp h fun _ e => e
def NowAll (K : Fr) (F H : Hp) : List V → List PyData → Prop
  | [], [] => True
  | v :: vs, d :: ds => Now K F H v d ∧ NowAll K F H vs ds
  | _, _ => False

/-- a def's table of code objects -/
def TabOk (T : List Addr) (G F H : Hp) : Prop := ∀ P ∈ T, GxR.TabG H P ∧ F P = none ∧ G P = none

/-- the frame's slots and the heap stand as the environment says. G: others' objects, that must not change; F: what never changes; L: slots whose object is told -/
structure Rel (K : Fr) (T : List Addr) (G F : Hp) (L : List (Nat × Addr)) (σ : L2.St) (H : Hp) (e : Nv) : Prop where
  len : e.length = σ.length
  gH : Ext G H
  fH : Ext F H
  gf : ∀ a o, F a = some o → G a = none
  tb : TabOk T G F H
  fz : ∀ i d, gt e i = some (d, .fz) → ∃ v, σ[i]? = some (some v) ∧ Rp K F v d
  own : ∀ i d, gt e i = some (d, .own) → ∃ a, σ[i]? = some (some (.ref a)) ∧ Ob K F H a d ∧ G a = none ∧ F a = none
  io : ∀ i d, gt e i = some (d, .io) → ∃ a, (i, a) ∈ L ∧ σ[i]? = some (some (.ref a)) ∧ Ob K F H a d ∧ G a = none ∧ F a = none
  lk : ∀ i d, gt e i = some (d, .lk) → ∃ a, (i, a) ∈ L ∧ σ[i]? = some (some (.ref a)) ∧ Ob K F G a d
  pin : ∀ i a, (i, a) ∈ L → σ[i]? = some (some (.ref a)) ∧ ∃ d, gt e i = some (d, .io) ∨ gt e i = some (d, .lk)
  apart : ∀ i j d d' t t' a, gt e i = some (d, t) → gt e j = some (d', t') → (t = .own ∨ t = .io) → (t' = .own ∨ t' = .io) → σ[i]? = some (some (.ref a)) → σ[j]? = some (some (.ref a)) → i = j

/-- a value: never changing, or a new object -/
def Vr (K : Fr) (T : List Addr) (G F : Hp) (σ : L2.St) (H : Hp) (e : Nv) (v : V) (d : PyData) : Bool → Prop
  | false => Rp K F v d
  | true => ∃ a, v = .ref a ∧ Ob K F H a d ∧ G a = none ∧ F a = none ∧ ∀ i d' t, gt e i = some (d', t) → (t = .own ∨ t = .io) → σ[i]? ≠ some (some (.ref a))

/-- the field of an own exception class -/
def fldN : String → Str
  | "Dropped" => "beat"
  | "InvalidToken" => "number"
  | "InvalidDeed" => "word"
  | _ => "name"
/-- an own exception: its class by name, its field -/
def ExV (K : Fr) (F : Hp) (c : String) (d : PyData) (u : Value) (dx : Option Addr) (H : Hp) : Prop :=
  u = .ref (He.ga K (Str.ofString c)) ∧ ((d = .none ∧ dx = none) ∨ ∃ (p : Addr) (v : V), dx = some p ∧ H p = some (.xd [(fldN c, v)]) ∧ Rp K F v d)
abbrev tQ (K : Fr) (T : List Addr) (W : WX) (σ : L2.St) (x : R (PyData × Bool × Nv)) (G F : Hp) (L : List (Nat × Addr)) (Q : VK) : Prop := match x with
  | .ok (d, o, e') => ∀ v H' F', Ext F F' → Rel K T G F' L σ H' e' → Vr K T G F' σ H' e' v d o → Q v H'
  | .ex c d e' => ∀ u dx H' F', Ext F F' → Rel K T G F' L σ H' e' → ExV K F' c d u dx H' → W u dx σ H'
  | .bad => False
/-- the reading of an expression whose meaning is f -/
def tE (K : Fr) (T : List Addr) (W : WX) (f : EV) : TE := fun σ H Q => ∃ G F L e, Rel K T G F L σ H e ∧ tQ K T W σ (f e) G F L Q
end Py
end
section
set_option Elab.async false
set_option linter.all false
set_option maxRecDepth 100000
namespace Py
open PySem PySem.Spec PyProof.Rows L2

/-! ### what becomes of Rel -/
section
variable {K : Fr} {T : List Addr} {G F F' : Hp} {L : List (Nat × Addr)} {σ : L2.St} {H H' : Hp} {e : Nv}
theorem TabG.ext {H H' : Hp} (h : Ext H H') {P : Addr} (t : GxR.TabG H P) : GxR.TabG H' P := let ⟨ps, e, o⟩ := t; ⟨ps, h _ _ e, o⟩
theorem Ob.notTab {a : Addr} {d : PyData} (o : Ob K F H a d) {P : Addr} (t : GxR.TabG H P) : P ≠ a := by
  rintro rfl
  obtain ⟨ps, e, _⟩ := t
  cases o with
  | lst x r => rw [x] at e; cases e
  | dK x r k => rw [x] at e; cases e
  | dT x r k => rw [x] at e; cases e
/-- new objects alone -/
theorem Rel.grow (r : Rel K T G F L σ H e) (h1 : Ext F F') (h2 : Ext F' H') (h3 : Ext H H') (h4 : ∀ a o, F' a = some o → (∃ u, F a = some u) ∨ H a = none) : Rel K T G F' L σ H' e where
  len := r.len
  gH := r.gH.trans h3
  fH := h2
  gf := fun a o x => by
    rcases h4 a o x with ⟨u, y⟩ | y
    · exact r.gf a u y
    · exact r.gH.none y
  tb := fun P hP => by
    obtain ⟨t, f, g⟩ := r.tb P hP
    refine ⟨TabG.ext h3 t, ?_, g⟩
    cases q : F' P with
    | none => rfl
    | some o =>
      rcases h4 P o q with ⟨u, y⟩ | y
      · rw [f] at y; cases y
      · obtain ⟨ps, z, _⟩ := t; rw [z] at y; cases y
  fz := fun i d x => let ⟨v, a, b⟩ := r.fz i d x; ⟨v, a, b.ext h1⟩
  own := fun i d x => by
    obtain ⟨a, x1, x2, x3, x4⟩ := r.own i d x
    refine ⟨a, x1, x2.ext h1 (fun u z => h3 _ _ z), x3, ?_⟩
    cases q : F' a with
    | none => rfl
    | some o =>
      rcases h4 a o q with ⟨u, y⟩ | y
      · rw [x4] at y; cases y
      · obtain ⟨u, z⟩ := x2.there; rw [z] at y; cases y
  io := fun i d x => by
    obtain ⟨a, x0, x1, x2, x3, x4⟩ := r.io i d x
    refine ⟨a, x0, x1, x2.ext h1 (fun u z => h3 _ _ z), x3, ?_⟩
    cases q : F' a with
    | none => rfl
    | some o =>
      rcases h4 a o q with ⟨u, y⟩ | y
      · rw [x4] at y; cases y
      · obtain ⟨u, z⟩ := x2.there; rw [z] at y; cases y
  lk := fun i d x => let ⟨a, x0, x1, x2⟩ := r.lk i d x; ⟨a, x0, x1, x2.ext h1 fun _ z => z⟩
  pin := r.pin
  apart := r.apart
/-- an object of nobody's never changes from now on -/
theorem Rel.keepF {a : Addr} {u : HO} (r : Rel K T G F L σ H e) (hu : H a = some u) (hG : G a = none) (hT : ∀ P ∈ T, P ≠ a) (hs : ∀ i d t, gt e i = some (d, t) → (t = .own ∨ t = .io) → σ[i]? ≠ some (some (.ref a))) (hF : F a = none) : Rel K T G (upd F a u) L σ H e := by
  have ex : Ext F (upd F a u) := Ext.upd hF
  refine ⟨r.len, r.gH, fun b o x => ?_, fun b o x => ?_, fun P hP => ?_, fun i d x => let ⟨v, a, b⟩ := r.fz i d x; ⟨v, a, b.ext ex⟩, fun i d x => ?_, fun i d x => ?_, fun i d x => let ⟨a, x0, x1, x2⟩ := r.lk i d x; ⟨a, x0, x1, x2.ext ex fun _ z => z⟩, r.pin, r.apart⟩
  · by_cases hb : b = a
    · subst hb; rw [upd_same] at x; cases x; exact hu
    · rw [upd_ne hb] at x; exact r.fH b o x
  · by_cases hb : b = a
    · subst hb; exact hG
    · rw [upd_ne hb] at x; exact r.gf b o x
  · obtain ⟨t, f, g⟩ := r.tb P hP
    exact ⟨t, by rw [upd_ne (hT P hP)]; exact f, g⟩
  · obtain ⟨b, x1, x2, x3, x4⟩ := r.own i d x
    refine ⟨b, x1, x2.ext ex fun _ z => z, x3, ?_⟩
    rw [upd_ne (fun z => hs i d _ x (.inl rfl) (by rw [x1, z]))]
    exact x4
  · obtain ⟨b, x0, x1, x2, x3, x4⟩ := r.io i d x
    refine ⟨b, x0, x1, x2.ext ex fun _ z => z, x3, ?_⟩
    rw [upd_ne (fun z => hs i d _ x (.inr rfl) (by rw [x1, z]))]
    exact x4
/-- a value, as one that never changes -/
theorem Rel.still (r : Rel K T G F L σ H e) {v : V} {d : PyData} {o : Bool} (x : Vr K T G F σ H e v d o) : ∃ F', Ext F F' ∧ Rel K T G F' L σ H e ∧ Rp K F' v d := by
  cases o with
  | false => exact ⟨F, Ext.refl F, r, x⟩
  | true =>
    obtain ⟨a, rfl, ob, g, f, s⟩ := x
    obtain ⟨u, hu⟩ := ob.there
    refine ⟨upd F a u, Ext.upd f, r.keepF hu g (fun P hP => ob.notTab (r.tb P hP).1) s f, ob.rp (Ext.upd f) fun w z => ?_⟩
    rw [hu] at z; cases z
    exact upd_same
theorem gt_of_set {e : Nv} {i j : Nat} {s : Slot} {p : PyData × Tg} (h : gt (e.set i s) j = some p) : (i = j ∧ s = some p ∧ i < e.length) ∨ (i ≠ j ∧ gt e j = some p) := by
  by_cases hij : i = j
  · subst hij
    by_cases hl : i < e.length
    · rw [gt_set_self e i s hl] at h; exact .inl ⟨rfl, h, hl⟩
    · rw [List.set_eq_of_length_le (by omega)] at h
      exact absurd (gt_some_lt h) hl
  · rw [gt_set_ne e i j s hij] at h; exact .inr ⟨hij, h⟩
/-- no name is told of L but by its slot -/
theorem Rel.noL (r : Rel K T G F L σ H e) {i : Nat} (h : ∀ d, gt e i ≠ some (d, .io) ∧ gt e i ≠ some (d, .lk)) : ∀ a, (i, a) ∉ L := fun a m => by
  obtain ⟨_, d, q | q⟩ := r.pin i a m
  · exact (h d).1 q
  · exact (h d).2 q
/-- a slot that holds a value of F from now on -/
theorem Rel.setFz (r : Rel K T G F L σ H e) {i : Nat} {v : V} {d : PyData} (hi : i < e.length) (hn : ∀ d, gt e i ≠ some (d, .io) ∧ gt e i ≠ some (d, .lk)) (x : Rp K F v d) : Rel K T G F L (σ.set i (some v)) H (e.set i (some (d, .fz))) := by
  have hl := r.noL hn
  have ne : ∀ j, i ≠ j → (σ.set i (some v))[j]? = σ[j]? := fun j h => List.getElem?_set_ne h
  have self : (σ.set i (some v))[i]? = some (some v) := List.getElem?_set_self (by have := r.len; omega)
  refine ⟨by simp [r.len], r.gH, r.fH, r.gf, r.tb, fun j d' h => ?_, fun j d' h => ?_, fun j d' h => ?_, fun j d' h => ?_, fun j a m => ?_, fun j k d1 d2 t1 t2 a h1 h2 q1 q2 s1 s2 => ?_⟩
  · rcases gt_of_set h with ⟨rfl, q, _⟩ | ⟨q, h⟩
    · cases q; exact ⟨v, self, x⟩
    · rw [ne j q]; exact r.fz j d' h
  · rcases gt_of_set h with ⟨rfl, q, _⟩ | ⟨q, h⟩
    · cases q
    · rw [ne j q]; exact r.own j d' h
  · rcases gt_of_set h with ⟨rfl, q, _⟩ | ⟨q, h⟩
    · cases q
    · rw [ne j q]; exact r.io j d' h
  · rcases gt_of_set h with ⟨rfl, q, _⟩ | ⟨q, h⟩
    · cases q
    · rw [ne j q]; exact r.lk j d' h
  · have hj : i ≠ j := fun z => hl a (z ▸ m)
    rw [ne j hj, gt_set_ne e i j _ hj]
    exact r.pin j a m
  · rcases gt_of_set h1 with ⟨rfl, q, _⟩ | ⟨q, h1⟩
    · cases q; rcases q1 with q1 | q1 <;> cases q1
    · rcases gt_of_set h2 with ⟨rfl, q', _⟩ | ⟨q', h2⟩
      · cases q'; rcases q2 with q2 | q2 <;> cases q2
      · rw [ne j q] at s1
        rw [ne k q'] at s2
        exact r.apart j k d1 d2 t1 t2 a h1 h2 q1 q2 s1 s2
/-- a slot that holds a new object from now on -/
theorem Rel.setOwn (r : Rel K T G F L σ H e) {i : Nat} {v : V} {d : PyData} (hi : i < e.length) (hn : ∀ d, gt e i ≠ some (d, .io) ∧ gt e i ≠ some (d, .lk)) (x : Vr K T G F σ H e v d true) : Rel K T G F L (σ.set i (some v)) H (e.set i (some (d, .own))) := by
  obtain ⟨a, rfl, ob, g, f, s⟩ := x
  have hl := r.noL hn
  have ne : ∀ j, i ≠ j → (σ.set i (some (.ref a)))[j]? = σ[j]? := fun j h => List.getElem?_set_ne h
  have self : (σ.set i (some (.ref a)))[i]? = some (some (.ref a)) := List.getElem?_set_self (by have := r.len; omega)
  refine ⟨by simp [r.len], r.gH, r.fH, r.gf, r.tb, fun j d' h => ?_, fun j d' h => ?_, fun j d' h => ?_, fun j d' h => ?_, fun j a m => ?_, fun j k d1 d2 t1 t2 b h1 h2 q1 q2 s1 s2 => ?_⟩
  · rcases gt_of_set h with ⟨rfl, q, _⟩ | ⟨q, h⟩
    · cases q
    · rw [ne j q]; exact r.fz j d' h
  · rcases gt_of_set h with ⟨rfl, q, _⟩ | ⟨q, h⟩
    · cases q; exact ⟨a, self, ob, g, f⟩
    · rw [ne j q]; exact r.own j d' h
  · rcases gt_of_set h with ⟨rfl, q, _⟩ | ⟨q, h⟩
    · cases q
    · rw [ne j q]; exact r.io j d' h
  · rcases gt_of_set h with ⟨rfl, q, _⟩ | ⟨q, h⟩
    · cases q
    · rw [ne j q]; exact r.lk j d' h
  · have hj : i ≠ j := fun z => hl a (z ▸ m)
    rw [ne j hj, gt_set_ne e i j _ hj]
    exact r.pin j a m
  · rcases gt_of_set h1 with ⟨rfl, q, _⟩ | ⟨q, h1⟩
    · rcases gt_of_set h2 with ⟨rfl, q', _⟩ | ⟨q', h2⟩
      · rfl
      · rw [self] at s1
        cases s1
        rw [ne k q'] at s2
        exact absurd s2 (s k d2 t2 h2 q2)
    · rcases gt_of_set h2 with ⟨rfl, q', _⟩ | ⟨q', h2⟩
      · rw [self] at s2
        cases s2
        rw [ne j q] at s1
        exact absurd s1 (s j d1 t1 h1 q1)
      · rw [ne j q] at s1
        rw [ne k q'] at s2
        exact r.apart j k d1 d2 t1 t2 b h1 h2 q1 q2 s1 s2
/-- a slot that nobody asks for any more -/
theorem Rel.drop (r : Rel K T G F L σ H e) {i : Nat} (hn : ∀ d, gt e i ≠ some (d, .io) ∧ gt e i ≠ some (d, .lk)) : Rel K T G F L σ H (e.set i none) := by
  have hl := r.noL hn
  have un : ∀ {j p}, gt (e.set i none) j = some p → gt e j = some p := fun {j p} h => by
    rcases gt_of_set h with ⟨rfl, q, _⟩ | ⟨q, h⟩
    · cases q
    · exact h
  refine ⟨by simp [r.len], r.gH, r.fH, r.gf, r.tb, fun j d' h => r.fz j d' (un h), fun j d' h => r.own j d' (un h), fun j d' h => r.io j d' (un h), fun j d' h => r.lk j d' (un h), fun j a m => ?_, fun j k d1 d2 t1 t2 b h1 h2 q1 q2 s1 s2 => r.apart j k d1 d2 t1 t2 b (un h1) (un h2) q1 q2 s1 s2⟩
  have hj : i ≠ j := fun z => hl a (z ▸ m)
  rw [gt_set_ne e i j _ hj]
  exact r.pin j a m
/-- a slot's value where nothing is stored: the slot's tag alone changes to fz -/
theorem Rel.frz (r : Rel K T G F L σ H e) {i : Nat} {d : PyData} (h : gt e i = some (d, .own)) : ∃ v F', σ[i]? = some (some v) ∧ Ext F F' ∧ Rel K T G F' L σ H (e.set i (some (d, .fz))) ∧ Rp K F' v d := by
  obtain ⟨a, x1, x2, x3, x4⟩ := r.own i d h
  have hn : ∀ d, gt e i ≠ some (d, .io) ∧ gt e i ≠ some (d, .lk) := fun d' => by rw [h]; exact ⟨fun z => (by cases z), fun z => (by cases z)⟩
  obtain ⟨u, hu⟩ := x2.there
  have hd := r.drop hn
  have un : ∀ j d' t, gt (e.set i none) j = some (d', t) → (t = .own ∨ t = .io) → σ[j]? ≠ some (some (.ref a)) := fun j d' t q w z => by
    rcases gt_of_set q with ⟨rfl, q, _⟩ | ⟨q, q'⟩
    · cases q
    · exact q (r.apart i j d d' .own t a h q' (.inl rfl) w x1 z)
  have k := hd.keepF hu x3 (fun P hP => x2.notTab (r.tb P hP).1) un x4
  have rp : Rp K (upd F a u) (.ref a) d := x2.rp (Ext.upd x4) fun w z => by rw [hu] at z; cases z; exact upd_same
  refine ⟨.ref a, upd F a u, x1, Ext.upd x4, ?_, rp⟩
  have hi := gt_some_lt h
  have hn2 : ∀ d, gt (e.set i none) i ≠ some (d, .io) ∧ gt (e.set i none) i ≠ some (d, .lk) := fun d' => by rw [gt_set_self e i _ hi]; exact ⟨fun z => (by cases z), fun z => (by cases z)⟩
  have m := k.setFz (i := i) (by simpa using hi) hn2 rp
  rw [List.set_set] at m
  have es : σ.set i (some (.ref a)) = σ := by
    obtain ⟨hl, q⟩ := List.getElem?_eq_some_iff.mp x1
    rw [← q]; exact List.set_getElem_self hl
  rw [es] at m
  exact m
/-- a slot's object as it stands -/
theorem Rel.now (r : Rel K T G F L σ H e) {i : Nat} {d : PyData} {t : Tg} (h : gt e i = some (d, t)) : ∃ v, σ[i]? = some (some v) ∧ Now K F H v d := by
  cases t with
  | fz => obtain ⟨v, a, b⟩ := r.fz i d h; exact ⟨v, a, .inl b⟩
  | own => obtain ⟨a, x1, x2, _⟩ := r.own i d h; exact ⟨_, x1, .inr ⟨a, rfl, x2⟩⟩
  | io => obtain ⟨a, _, x1, x2, _⟩ := r.io i d h; exact ⟨_, x1, .inr ⟨a, rfl, x2⟩⟩
  | lk => obtain ⟨a, _, x1, x2⟩ := r.lk i d h; exact ⟨_, x1, .inr ⟨a, rfl, x2.ext (Ext.refl F) fun u z => r.gH _ _ z⟩⟩
/-- the object of a slot has changed -/
theorem Rel.chg (r : Rel K T G F L σ H e) {i : Nat} {d d' : PyData} {t : Tg} {a : Addr} {u : HO} (h : gt e i = some (d, t)) (ht : t = .own ∨ t = .io) (hs : σ[i]? = some (some (.ref a))) (ob : Ob K F (upd H a u) a d') : Rel K T G F L σ (upd H a u) (e.set i (some (d', t))) := by
  have hi := gt_some_lt h
  have ad : (∃ w, H a = some w) ∧ G a = none ∧ F a = none ∧ (∀ P ∈ T, P ≠ a) ∧ (t = .io → (i, a) ∈ L) := by
    rcases ht with rfl | rfl
    · obtain ⟨b, x1, x2, x3, x4⟩ := r.own i d h
      rw [hs] at x1; cases x1
      exact ⟨x2.there, x3, x4, fun P hP => x2.notTab (r.tb P hP).1, fun z => by cases z⟩
    · obtain ⟨b, x0, x1, x2, x3, x4⟩ := r.io i d h
      rw [hs] at x1; cases x1
      exact ⟨x2.there, x3, x4, fun P hP => x2.notTab (r.tb P hP).1, fun _ => x0⟩
  obtain ⟨⟨w, hw⟩, hG, hF, hT, hL⟩ := ad
  have oth : ∀ j d2 t2, i ≠ j → gt e j = some (d2, t2) → (t2 = .own ∨ t2 = .io) → ∀ b, σ[j]? = some (some (.ref b)) → b ≠ a := fun j d2 t2 hij q w b z zb => by
    subst zb
    exact hij (r.apart i j d d2 t t2 b h q ht w hs z)
  refine ⟨by simp [r.len], fun b o x => ?_, fun b o x => ?_, r.gf, fun P hP => ?_, fun j d2 q => ?_, fun j d2 q => ?_, fun j d2 q => ?_, fun j d2 q => ?_, fun j b m => ?_, fun j k d1 d2 t1 t2 b h1 h2 q1 q2 s1 s2 => ?_⟩
  · rw [upd_ne (ne_of_none x hG)]; exact r.gH b o x
  · rw [upd_ne (ne_of_none x hF)]; exact r.fH b o x
  · obtain ⟨⟨ps, p1, p2⟩, f, g⟩ := r.tb P hP
    exact ⟨⟨ps, by rw [upd_ne (hT P hP)]; exact p1, p2⟩, f, g⟩
  · rcases gt_of_set q with ⟨rfl, q, _⟩ | ⟨q, q'⟩
    · cases q; rcases ht with z | z <;> cases z
    · exact r.fz j d2 q'
  · rcases gt_of_set q with ⟨rfl, q, _⟩ | ⟨q, q'⟩
    · cases q; exact ⟨a, hs, ob, hG, hF⟩
    · obtain ⟨b, x1, x2, x3, x4⟩ := r.own j d2 q'
      exact ⟨b, x1, x2.ext (Ext.refl F) fun w z => by rw [upd_ne (oth j d2 _ q q' (.inl rfl) b x1)]; exact z, x3, x4⟩
  · rcases gt_of_set q with ⟨rfl, q, _⟩ | ⟨q, q'⟩
    · cases q; exact ⟨a, hL rfl, hs, ob, hG, hF⟩
    · obtain ⟨b, x0, x1, x2, x3, x4⟩ := r.io j d2 q'
      exact ⟨b, x0, x1, x2.ext (Ext.refl F) fun w z => by rw [upd_ne (oth j d2 _ q q' (.inr rfl) b x1)]; exact z, x3, x4⟩
  · rcases gt_of_set q with ⟨rfl, q, _⟩ | ⟨q, q'⟩
    · cases q; rcases ht with z | z <;> cases z
    · exact r.lk j d2 q'
  · obtain ⟨p1, d2, p2⟩ := r.pin j b m
    refine ⟨p1, ?_⟩
    by_cases hij : i = j
    · subst hij
      rw [gt_set_self e i _ hi]
      rcases ht with rfl | rfl
      · rw [h] at p2; rcases p2 with p2 | p2 <;> cases p2
      · exact ⟨d', .inl rfl⟩
    · rw [gt_set_ne e i j _ hij]; exact ⟨d2, p2⟩
  · have un : ∀ {j d1 t1}, gt (e.set i (some (d', t))) j = some (d1, t1) → ∃ d0, gt e j = some (d0, t1) := fun {j d1 t1} q => by
      rcases gt_of_set q with ⟨rfl, q, _⟩ | ⟨q, q'⟩
      · cases q; exact ⟨d, h⟩
      · exact ⟨d1, q'⟩
    obtain ⟨_, h1⟩ := un h1
    obtain ⟨_, h2⟩ := un h2
    exact r.apart j k _ _ t1 t2 b h1 h2 q1 q2 s1 s2
end

/-! ### expressions -/
theorem PE.mono {X : Cx} {e : Expr} {t t' : TE} (h : PE X e t) (m : ∀ σ H Q, t' σ H Q → t σ H Q) : PE X e t' := ⟨fun pins s σ H Q I q => h.run pins s σ H Q I (m σ H Q q)⟩
theorem PT.mono {X : Cx} {e : Expr} {t t' : TT} (h : PT X e t) (m : ∀ σ H Q, t' σ H Q → t σ H Q) : PT X e t' := ⟨fun pins s σ H Q I q => h.run pins s σ H Q I (m σ H Q q)⟩
theorem PW.mono {X : Cx} {e : Expr} {t t' : TT} (h : PW X e t) (m : ∀ σ H Q, t' σ H Q → t σ H Q) : PW X e t' := ⟨fun w pins s σ H Q I q => h.run w pins s σ H Q I (m σ H Q q)⟩
theorem PS.mono {X : Cx} {e : Stmt} {t t' : TS} (h : PS X e t) (m : ∀ D σ H, t' D σ H → t D σ H) : PS X e t' := ⟨fun pins s σ H D I q => h.run pins s σ H D I (m D σ H q)⟩
theorem PSs.mono {X : Cx} {e : List Stmt} {t t' : TS} (h : PSs X e t) (m : ∀ D σ H, t' D σ H → t D σ H) : PSs X e t' := ⟨fun pins s σ H D I q => h.run pins s σ H D I (m D σ H q)⟩
theorem PA.mono {X : Cx} {e : List Expr} {t t' : TA} (h : PA X e t) (m : ∀ σ H Q, t' σ H Q → t σ H Q) : PA X e t' := ⟨fun p pins s σ H Q I q => h.run p pins s σ H Q I (m σ H Q q)⟩

abbrev SE (X : Cx) (T : List Addr) (W : WX) (e : Expr) (f : EV) : Prop := PE X e (tE X.K T W f)
def tAg (K : Fr) (T : List Addr) (W : WX) : Arg → TE
  | .pk i => tVar i
  | .ev f => tE K T W f
abbrev SA (X : Cx) (T : List Addr) (W : WX) (e : Expr) (a : Arg) : Prop := PE X e (tAg X.K T W a)
def tAs : List TE → TA
  | [] => tNil
  | t :: ts => tCons t (tAs ts)
/-- operands, from the left -/
abbrev aQ (K : Fr) (T : List Addr) (W : WX) (σ : L2.St) (x : R (List PyData × Nv)) (G F : Hp) (L : List (Nat × Addr)) (Q : List V → Hp → Prop) : Prop := match x with
  | .ok (ds, e') => ∀ vs H' F', Ext F F' → Rel K T G F' L σ H' e' → NowAll K F' H' vs ds → Q vs H'
  | .ex c d e' => ∀ u dx H' F', Ext F F' → Rel K T G F' L σ H' e' → ExV K F' c d u dx H' → W u dx σ H'
  | .bad => False
section
variable {K : Fr} {T : List Addr} {W : WX}
theorem args_ok : ∀ (as : List Arg) {σ : L2.St} {H : Hp} {G F : Hp} {L : List (Nat × Addr)} {e : Nv} {Q : List V → Hp → Prop}, Rel K T G F L σ H e → aQ K T W σ (evA as e) G F L Q → tAs (as.map (tAg K T W)) σ H Q
  | [], σ, H, G, F, L, e, Q, r, q => q [] H F (Ext.refl F) r trivial
  | .ev f :: as, σ, H, G, F, L, e, Q, r, q => by
    refine ⟨G, F, L, e, r, ?_⟩
    have q : aQ K T W σ (bnd (f e) fun p => bnd (evA as p.2.2) fun q => .ok (p.1 :: q.1, q.2)) G F L Q := q
    cases h : f e with
    | bad => rw [h] at q; exact q
    | ex c d e' => rw [h] at q; exact q
    | ok p =>
      obtain ⟨d, o, e1⟩ := p
      rw [h] at q
      intro v H1 F1 x1 r1 vr
      obtain ⟨F2, x2, r2, rp⟩ := r1.still vr
      refine args_ok as (Q := fun xs H2 => Q (v :: xs) H2) r2 ?_
      have q : aQ K T W σ (bnd (evA as e1) fun q => .ok (d :: q.1, q.2)) G F L Q := q
      cases h2 : evA as e1 with
      | bad => rw [h2] at q; exact q
      | ex c d e' => rw [h2] at q; exact fun u dx H' F' x3 => q u dx H' F' ((x1.trans x2).trans x3)
      | ok p =>
        rw [h2] at q
        exact fun vs H' F' x3 r3 n => q (v :: vs) H' F' ((x1.trans x2).trans x3) r3 ⟨.inl (rp.ext x3), n⟩
  | .pk i :: as, σ, H, G, F, L, e, Q, r, q => by
    have q : aQ K T W σ (if (gt e i).isSome then bnd (evA as e) fun q => match gt q.2 i with
      | some (d, _) => .ok (d :: q.1, q.2)
      | none => .bad
      else .bad) G F L Q := q
    cases h : gt e i with
    | none => rw [h] at q; exact False.elim q
    | some p =>
      obtain ⟨d0, t0⟩ := p
      obtain ⟨v, hv, _⟩ := r.now h
      refine ⟨v, hv, args_ok as (Q := fun xs H2 => Q (v :: xs) H2) r ?_⟩
      rw [h] at q
      simp only [Option.isSome_some, if_true] at q
      cases h2 : evA as e with
      | bad => rw [h2] at q; exact q
      | ex c d e' => rw [h2] at q; exact q
      | ok p =>
        rw [h2] at q
        simp only [bnd_ok] at q
        intro vs H' F' x r' n
        cases h3 : gt p.2 i with
        | none => rw [h3] at q; exact False.elim q
        | some p3 =>
          rw [h3] at q
          obtain ⟨v', hv', nw⟩ := r'.now h3
          rw [hv] at hv'
          cases hv'
          exact q (v :: vs) H' F' x r' ⟨nw, n⟩
end
/-- what an operation gives: nothing that stood is changed -/
def NewV (K : Fr) (F' H H' : Hp) (v : V) (d : PyData) : Bool → Prop
  | false => Rp K F' v d
  | true => ∃ p, v = .ref p ∧ H p = none ∧ F' p = none ∧ Ob K F' H' p d
def OpD (K : Fr) (r : List V → Hp → VK → Prop) (h : Op) : Prop := ∀ (F H : Hp) (vs : List V) (ds : List PyData) (d : PyData) (o : Bool) (Q : VK), Ext F H → NowAll K F H vs ds → h ds = some (d, o) →
  (∀ v H' F', Ext F F' → Ext F' H' → Ext H H' → (∀ a u, F' a = some u → (∃ u, F a = some u) ∨ H a = none) → NewV K F' H H' v d o → Q v H') → r vs H Q
section
variable {K : Fr} {T : List Addr} {W : WX}
theorem newV_vr {G F F' : Hp} {L : List (Nat × Addr)} {σ : L2.St} {H H' : Hp} {e : Nv} {v : V} {d : PyData} {o : Bool} (r : Rel K T G F L σ H e) (n : NewV K F' H H' v d o) : Vr K T G F' σ H' e v d o := by
  cases o with
  | false => exact n
  | true =>
    obtain ⟨p, rfl, h1, h2, h3⟩ := n
    refine ⟨p, rfl, h3, r.gH.none h1, h2, fun i d' t q w z => ?_⟩
    rcases w with rfl | rfl
    · obtain ⟨a, x1, x2, _⟩ := r.own i d' q
      rw [z] at x1; cases x1
      obtain ⟨u, y⟩ := x2.there
      rw [h1] at y; cases y
    · obtain ⟨a, _, x1, x2, _⟩ := r.io i d' q
      rw [z] at x1; cases x1
      obtain ⟨u, y⟩ := x2.there
      rw [h1] at y; cases y
theorem op_ok {r : List V → Hp → VK → Prop} {h : Op} (o : OpD K r h) (as : List Arg) {σ : L2.St} {H : Hp} {Q : VK} (q : tE K T W (eOp h as) σ H Q) : tAs (as.map (tAg K T W)) σ H fun vs H1 => r vs H1 Q := by
  obtain ⟨G, F, L, e, rel, q⟩ := q
  refine args_ok as rel ?_
  have q : tQ K T W σ (bnd (evA as e) fun p => match h p.1 with
    | some (d, o) => .ok (d, o, p.2)
    | none => .bad) G F L Q := q
  cases h1 : evA as e with
  | bad => rw [h1] at q; exact q
  | ex c d e' => rw [h1] at q; exact q
  | ok p =>
    rw [h1] at q
    simp only [bnd_ok] at q
    intro vs H' F' x r' n
    cases h2 : h p.1 with
    | none => rw [h2] at q; exact False.elim q
    | some z =>
      obtain ⟨d, b⟩ := z
      rw [h2] at q
      refine o F' H' vs p.1 d b Q r'.fH n h2 fun v H2 F2 y1 y2 y3 y4 nv => ?_
      exact q v H2 F2 (x.trans y1) (r'.grow y1 y2 y3 y4) (newV_vr r' nv)
/-- constants -/
theorem tc_ok {f : EV} {v : V} {d : PyData} (hf : f = eC d) (hv : ∀ F, Rp K F v d) {σ : L2.St} {H : Hp} {Q : VK} (q : tE K T W f σ H Q) : tC v σ H Q := by
  subst hf
  obtain ⟨G, F, L, e, rel, q⟩ := q
  exact q v H F (Ext.refl F) rel (hv F)
theorem tv_ok {i : Nat} {σ : L2.St} {H : Hp} {Q : VK} (q : tE K T W (eV i) σ H Q) : tVar i σ H Q := by
  obtain ⟨G, F, L, e, rel, q⟩ := q
  unfold eV at q
  cases h : gt e i with
  | none => rw [h] at q; exact False.elim q
  | some p =>
    obtain ⟨d, t⟩ := p
    rw [h] at q
    cases t with
    | fz =>
      obtain ⟨v, hv, rp⟩ := rel.fz i d h
      exact ⟨v, hv, q v H F (Ext.refl F) rel rp⟩
    | own =>
      obtain ⟨v, F', hv, x, r', rp⟩ := rel.frz h
      exact ⟨v, hv, q v H F' x r' rp⟩
    | io => exact False.elim q
    | lk => exact False.elim q
theorem tm_ok {i : Nat} {σ : L2.St} {H : Hp} {Q : VK} (q : tE K T W (eM i) σ H Q) : tVar i σ H Q := by
  obtain ⟨G, F, L, e, rel, q⟩ := q
  unfold eM at q
  cases h : gt e i with
  | none => rw [h] at q; exact False.elim q
  | some p =>
    obtain ⟨d, t⟩ := p
    rw [h] at q
    cases t with
    | fz =>
      obtain ⟨v, hv, rp⟩ := rel.fz i d h
      exact ⟨v, hv, q v H F (Ext.refl F) rel rp⟩
    | own =>
      obtain ⟨a, x1, x2, x3, x4⟩ := rel.own i d h
      have hn : ∀ d, gt e i ≠ some (d, .io) ∧ gt e i ≠ some (d, .lk) := fun d' => by rw [h]; exact ⟨fun z => (by cases z), fun z => (by cases z)⟩
      refine ⟨_, x1, q _ H F (Ext.refl F) (rel.drop hn) ⟨a, rfl, x2, x3, x4, fun j d' t z w y => ?_⟩⟩
      rcases gt_of_set z with ⟨rfl, z, _⟩ | ⟨z, z'⟩
      · cases z
      · exact z (rel.apart i j d d' .own t a h z' (.inl rfl) w x1 y)
    | io => exact False.elim q
    | lk => exact False.elim q
end
section
variable {X : Cx} {T : List Addr} {W : WX} {pos : Pos}
theorem se_int {i : Int} {j : Nat} : SE X T W (.Constant (.int i) j pos) (eC (.int i)) := PE.mono pe_int fun _ _ _ => tc_ok rfl fun _ => .int i
theorem se_bl {b : Bool} {j : Nat} : SE X T W (.Constant (.bool b) j pos) (eC (.bool b)) := PE.mono pe_bl fun _ _ _ => tc_ok rfl fun _ => .bl b
theorem se_non {j : Nat} : SE X T W (.Constant .none j pos) (eC .none) := PE.mono pe_non fun _ _ _ => tc_ok rfl fun _ => .non
theorem se_str {x : Str} {j : Nat} : SE X T W (.Constant (.str x) j pos) (eC (.str x)) := PE.mono pe_str fun _ _ _ => tc_ok rfl fun _ => .str x
theorem se_v {i : Nat} {x : Str} (hN : X.N[i]? = some x) (hv : Vis X.env.scope x) (hd : (x == ("__debug__" : Str)) = false := by decide) (hcd : (x == ("__classdict__" : Str)) = false := by decide) : SE X T W (.Name x pos) (eV i) := PE.mono (pe_var hN hv hd hcd) fun _ _ _ => tv_ok
theorem se_m {i : Nat} {x : Str} (hN : X.N[i]? = some x) (hv : Vis X.env.scope x) (hd : (x == ("__debug__" : Str)) = false := by decide) (hcd : (x == ("__classdict__" : Str)) = false := by decide) : SE X T W (.Name x pos) (eM i) := PE.mono (pe_var hN hv hd hcd) fun _ _ _ => tm_ok
theorem sa_pk {i : Nat} {x : Str} (hN : X.N[i]? = some x) (hv : Vis X.env.scope x) (hd : (x == ("__debug__" : Str)) = false := by decide) (hcd : (x == ("__classdict__" : Str)) = false := by decide) : SA X T W (.Name x pos) (.pk i) := pe_var hN hv hd hcd
theorem sa_ev {e : Expr} {f : EV} (h : SE X T W e f) : SA X T W e (.ev f) := h
/-- a name of the module that stands for a number, a text -/
theorem se_gi {x : Str} {i : Int} (hg : Gl X x) (hm : ∃ t, X.mg x = some (.int i t)) (hd : (x == ("__debug__" : Str)) = false := by decide) : SE X T W (.Name x pos) (eC (.int i)) := by
  obtain ⟨t, hm⟩ := hm
  exact PE.mono (pe_glob (v := .int i) hg hm ⟨t, rfl⟩ hd) fun _ _ _ => tc_ok rfl fun _ => .int i
theorem se_gs {x z : Str} (hg : Gl X x) (hm : ∃ t, X.mg x = some (.str z t)) (hd : (x == ("__debug__" : Str)) = false := by decide) : SE X T W (.Name x pos) (eC (.str z)) := by
  obtain ⟨t, hm⟩ := hm
  exact PE.mono (pe_glob (v := .str z) hg hm ⟨t, rfl⟩ hd) fun _ _ _ => tc_ok rfl fun _ => .str z
/-- operand lists -/
abbrev SAs (X : Cx) (T : List Addr) (W : WX) (es : List Expr) (as : List Arg) : Prop := PA X es (tAs (as.map (tAg X.K T W)))
theorem sas_nil : SAs X T W [] [] := pa_nil
theorem sas_cons {e : Expr} {es : List Expr} {a : Arg} {as : List Arg} (h : SA X T W e a) (hs : SAs X T W es as) (st : starEach (e :: es) X.env = (false, eval e X.env) :: starEach es X.env := by rfl) : SAs X T W (e :: es) (a :: as) := pa_cons h hs st
def r2 (r : R2) : List V → Hp → VK → Prop := fun vs H Q => ∃ x y, vs = [x, y] ∧ r x y H Q
theorem r2_of {r : R2} {ta tb : TE} {σ : L2.St} {H : Hp} {Q : VK} (h : tAs [ta, tb] σ H fun vs H1 => r2 r vs H1 Q) (ma : ∀ σ H (Q Q' : VK), (∀ v H, Q v H → Q' v H) → ta σ H Q → ta σ H Q') (mb : ∀ σ H (Q Q' : VK), (∀ v H, Q v H → Q' v H) → tb σ H Q → tb σ H Q') : tOp r ta tb σ H Q := by
  refine ma σ H _ _ (fun x H1 h1 => mb σ H1 _ _ (fun y H2 h2 => ?_) h1) h
  obtain ⟨x', y', e, q⟩ := h2
  cases e
  exact q
theorem tAg_mono {K : Fr} (a : Arg) (σ : L2.St) (H : Hp) (Q Q' : VK) (h : ∀ v H, Q v H → Q' v H) (q : tAg K T W a σ H Q) : tAg K T W a σ H Q' := by
  cases a with
  | pk i => obtain ⟨v, e, q⟩ := q; exact ⟨v, e, h _ _ q⟩
  | ev f =>
    obtain ⟨G, F, L, e, r, q⟩ := q
    refine ⟨G, F, L, e, r, ?_⟩
    cases z : f e with
    | bad => rw [z] at q; exact q
    | ex c d e' => rw [z] at q; exact q
    | ok p => rw [z] at q; exact fun v H' F' x r' n => h _ _ (q v H' F' x r' n)
theorem tE_mono {K : Fr} {f : EV} {σ : L2.St} {H : Hp} {Q Q' : VK} (h : ∀ v H, Q v H → Q' v H) (q : tE K T W f σ H Q) : tE K T W f σ H Q' := tAg_mono (.ev f) σ H Q Q' h q
theorem se_bin {op : Operator} {r : R2} {h : Op} {ea eb : Expr} {a b : Arg} (ho : OpR X (binaryOp op) r) (hd : OpD X.K (r2 r) h) (ha : SA X T W ea a) (hb : SA X T W eb b) : SE X T W (.BinOp ea op eb pos) (eOp h [a, b]) :=
  PE.mono (pe_op ho ha hb) fun _ _ _ q => r2_of (op_ok hd [a, b] q) (tAg_mono a) (tAg_mono b)
theorem se_cmp {op : CmpOp} {r : R2} {h : Op} {ea eb : Expr} {a b : Arg} (ho : OpR X (compareOp op) r) (hd : OpD X.K (r2 r) h) (ha : SA X T W ea a) (hb : SA X T W eb b) (hm : behindInMarks op eb = false) : SE X T W (.Compare ea [op] [eb] pos) (eOp h [a, b]) :=
  PE.mono (pe_cmpR ho ha hb hm) fun _ _ _ q => r2_of (op_ok hd [a, b] q) (tAg_mono a) (tAg_mono b)
theorem se_ix {r : R2} {h : Op} {ea eb : Expr} {a b : Arg} (ho : IxR X r) (hd : OpD X.K (r2 r) h) (ha : SA X T W ea a) (hb : SA X T W eb b) (hs : PlainIx eb) : SE X T W (.Subscript ea eb pos) (eOp h [a, b]) :=
  PE.mono (pe_ix ho ha hb hs) fun _ _ _ q => r2_of (op_ok hd [a, b] q) (tAg_mono a) (tAg_mono b)
def r1 (r : V → Hp → VK → Prop) : List V → Hp → VK → Prop := fun vs H Q => ∃ x, vs = [x] ∧ r x H Q
theorem se_un {op : UnaryOp} {r : V → Hp → VK → Prop} {h : Op} {ea : Expr} {a : Arg} (ho : UnR X (unaryOp op) r) (hd : OpD X.K (r1 r) h) (ha : SA X T W ea a) : SE X T W (.UnaryOp op ea pos) (eOp h [a]) :=
  PE.mono (pe_un ho ha) fun σ H Q q => tAg_mono a σ H _ _ (fun x H1 h1 => by
    obtain ⟨x', e, q⟩ : r1 r [x] H1 Q := h1
    cases e
    exact q) (op_ok hd [a] q)
/-- a built-in function, a built-in class, called -/
theorem se_bi {x : Str} {id : String} {r : List V → Hp → VK → Prop} {h : Op} {p : Pos} {e : Expr} {es : List Expr} {as : List Arg} (hc : CallR X (.builtin id) r) (hd : OpD X.K r h) (hg : Gl X x) (hm : X.mg x = none) (hv : bootBuiltins x = some (.builtin id)) (ha : SAs X T W (e :: es) as)
    (hn : x ≠ "__name__" := by decide) (hdb : (x == ("__debug__" : Str)) = false := by decide)
    (he : starEach (e :: es) X.env = (false, eval e X.env) :: starEach es X.env := by rfl) (hpl : (backTo pos (starEach es X.env)).any (·.1) = false := by rfl) : SE X T W (.Call (.Name x p) (e :: es) [] pos) (eOp h as) :=
  PE.mono (pe_callB hc hg hm hv ha hn hdb he hpl) fun _ _ _ q => op_ok hd as q
theorem se_ty {x : Str} {id : String} {r : List V → Hp → VK → Prop} {h : Op} {p : Pos} {e : Expr} {es : List Expr} {as : List Arg} (hc : CallR X (.type id) r) (hd : OpD X.K r h) (hg : Gl X x) (hm : X.mg x = none) (hv : bootBuiltins x = some (.type id)) (ha : SAs X T W (e :: es) as)
    (hn : x ≠ "__name__" := by decide) (hdb : (x == ("__debug__" : Str)) = false := by decide)
    (he : starEach (e :: es) X.env = (false, eval e X.env) :: starEach es X.env := by rfl) (hpl : (backTo pos (starEach es X.env)).any (·.1) = false := by rfl) : SE X T W (.Call (.Name x p) (e :: es) [] pos) (eOp h as) :=
  PE.mono (pe_callTy hc hg hm hv ha hn hdb he hpl) fun _ _ _ q => op_ok hd as q
end
end Py
end
section
set_option Elab.async false
set_option linter.all false
set_option maxRecDepth 100000
/-! Tests, and, or, not, the conditional expression. -/
namespace Py
open PySem PySem.Spec PyProof.Rows L2

abbrev bQ (K : Fr) (T : List Addr) (W : WX) (σ : L2.St) (x : R (Bool × Nv)) (G F : Hp) (L : List (Nat × Addr)) (Q : Bool → Hp → Prop) : Prop := match x with
  | .ok (b, e') => ∀ H' F', Ext F F' → Rel K T G F' L σ H' e' → Q b H'
  | .ex c d e' => ∀ u dx H' F', Ext F F' → Rel K T G F' L σ H' e' → ExV K F' c d u dx H' → W u dx σ H'
  | .bad => False
def tT (K : Fr) (T : List Addr) (W : WX) (t : TV) : TT := fun σ H Q => ∃ G F L e, Rel K T G F L σ H e ∧ bQ K T W σ (t e) G F L Q
abbrev ST (X : Cx) (T : List Addr) (W : WX) (e : Expr) (t : TV) : Prop := PT X e (tT X.K T W t)
abbrev SW (X : Cx) (T : List Addr) (W : WX) (e : Expr) (t : TV) : Prop := PW X e (tT X.K T W t)
section
variable {K : Fr} {T : List Addr} {W : WX}
theorem rp_bool {F : Hp} {v : V} {b : Bool} (h : Rp K F v (.bool b)) : v = .bl b := by cases h; rfl
theorem vr_bool {G F : Hp} {σ : L2.St} {H : Hp} {e : Nv} {v : V} {b o : Bool} (h : Vr K T G F σ H e v (.bool b) o) : v = .bl b := by
  cases o with
  | false => exact rp_bool h
  | true => obtain ⟨a, _, ob, _⟩ := h; cases ob
theorem asB_some {d : PyData} {b : Bool} (h : asB d = some b) : d = .bool b := by
  cases d <;> simp [asB] at h
  rw [h]
theorem truV_of {F : Hp} {v : V} {d : PyData} {b : Bool} (r : Rp K F v d) (h : truth d = some b) : TruV K v F b := by
  cases r with
  | non => simp [truth] at h; exact h
  | bl c => simp [truth] at h; exact h.symm
  | int i => simp only [truth, Option.some.injEq] at h; exact h.symm
  | str x =>
    simp only [truth] at h
    split at h
    · rename_i hl
      simp only [Option.some.injEq] at h
      exact ⟨by rw [sizeLine_eq]; exact hl, h.symm⟩
    · cases h
  | lst s ra =>
    simp only [truth, Option.some.injEq] at h
    refine .inl ⟨_, s, ?_⟩
    rw [← h]; cases ra <;> rfl
  | tup s ra =>
    simp only [truth, Option.some.injEq] at h
    refine .inr (.inl ⟨_, SqT.of s, ?_⟩)
    rw [← h]; cases ra <;> rfl
  | dK => simp [truth] at h
  | dT => simp [truth] at h
/-- an operand alone -/
theorem arg_ok {a : Arg} {σ : L2.St} {H : Hp} {G F : Hp} {L : List (Nat × Addr)} {e : Nv} {Q : VK} (r : Rel K T G F L σ H e) (q : aQ K T W σ (evA [a] e) G F L fun vs H' => ∀ v, vs = [v] → Q v H') : tAg K T W a σ H Q :=
  tAg_mono a σ H _ _ (fun v H' (h : tAs (([] : List Arg).map (tAg K T W)) σ H' fun xs H2 => ∀ w, v :: xs = [w] → Q w H2) => h v rfl) (args_ok [a] (Q := fun vs H' => ∀ v, vs = [v] → Q v H') r q)
theorem tOf_ok {f : EV} {σ : L2.St} {H : Hp} {Q : Bool → Hp → Prop} (q : tT K T W (tOf f) σ H Q) : tE K T W f σ H fun x H' => ∃ k, x = .bl k ∧ Q k H' := by
  obtain ⟨G, F, L, e, r, q⟩ := q
  refine ⟨G, F, L, e, r, ?_⟩
  have q : bQ K T W σ (bnd (f e) fun p => match asB p.1 with
    | some b => .ok (b, p.2.2)
    | none => .bad) G F L Q := q
  cases h : f e with
  | bad => rw [h] at q; exact q
  | ex c d e' => rw [h] at q; exact q
  | ok p =>
    obtain ⟨d, o, e'⟩ := p
    rw [h] at q
    simp only [bnd_ok] at q
    cases h2 : asB d with
    | none => rw [h2] at q; exact False.elim q
    | some b =>
      rw [h2] at q
      obtain rfl := asB_some h2
      exact fun v H' F' x r' n => ⟨b, vr_bool n, q H' F' x r'⟩
theorem tAr_ok {a : Arg} {σ : L2.St} {H : Hp} {Q : Bool → Hp → Prop} (q : tT K T W (tAr a) σ H Q) : tAg K T W a σ H fun x H' => ∃ k, TruV K x H' k ∧ Q k H' := by
  obtain ⟨G, F, L, e, r, q⟩ := q
  refine arg_ok r ?_
  have q : bQ K T W σ (bnd (evA [a] e) fun p => match p.1 with
    | [d] => (match truth d with
      | some b => .ok (b, p.2)
      | none => .bad)
    | _ => .bad) G F L Q := q
  cases h : evA [a] e with
  | bad => rw [h] at q; exact q
  | ex c d e' => rw [h] at q; exact q
  | ok p =>
    obtain ⟨ds, e'⟩ := p
    rw [h] at q
    simp only [bnd_ok] at q
    intro vs H' F' x r' n v hv
    subst hv
    match ds, n, q with
    | [d], n, q =>
      cases h2 : truth d with
      | none => simp only [h2] at q; exact False.elim q
      | some b =>
        simp only [h2] at q
        exact ⟨b, truV_of (n.1.rp r'.fH) h2, q H' F' x r'⟩
theorem tAn_ok {t u : TV} {σ : L2.St} {H : Hp} {Q : Bool → Hp → Prop} (q : tT K T W (tAn t u) σ H Q) : tAnd (tT K T W t) (tT K T W u) σ H Q := by
  obtain ⟨G, F, L, e, r, q⟩ := q
  refine ⟨G, F, L, e, r, ?_⟩
  have q : bQ K T W σ (bnd (t e) fun p => if p.1 then u p.2 else .ok (false, p.2)) G F L Q := q
  cases h : t e with
  | bad => rw [h] at q; exact q
  | ex c d e' => rw [h] at q; exact q
  | ok p =>
    obtain ⟨b, e'⟩ := p
    rw [h] at q
    simp only [bnd_ok] at q
    intro H' F' x r'
    cases b with
    | false => exact q H' F' x r'
    | true =>
      refine ⟨G, F', L, e', r', ?_⟩
      simp only [if_true] at q
      cases h2 : u e' with
      | bad => rw [h2] at q; exact q
      | ex c d e2 => rw [h2] at q; exact fun u dx H2 F2 y => q u dx H2 F2 (x.trans y)
      | ok p => rw [h2] at q; exact fun H2 F2 y => q H2 F2 (x.trans y)
theorem tOr_ok {t u : TV} {σ : L2.St} {H : Hp} {Q : Bool → Hp → Prop} (q : tT K T W (tOr t u) σ H Q) : L2.tOr (tT K T W t) (tT K T W u) σ H Q := by
  obtain ⟨G, F, L, e, r, q⟩ := q
  refine ⟨G, F, L, e, r, ?_⟩
  have q : bQ K T W σ (bnd (t e) fun p => if p.1 then .ok (true, p.2) else u p.2) G F L Q := q
  cases h : t e with
  | bad => rw [h] at q; exact q
  | ex c d e' => rw [h] at q; exact q
  | ok p =>
    obtain ⟨b, e'⟩ := p
    rw [h] at q
    simp only [bnd_ok] at q
    intro H' F' x r'
    cases b with
    | true => exact q H' F' x r'
    | false =>
      refine ⟨G, F', L, e', r', ?_⟩
      simp only [Bool.false_eq_true, if_false] at q
      cases h2 : u e' with
      | bad => rw [h2] at q; exact q
      | ex c d e2 => rw [h2] at q; exact fun u dx H2 F2 y => q u dx H2 F2 (x.trans y)
      | ok p => rw [h2] at q; exact fun H2 F2 y => q H2 F2 (x.trans y)
theorem tNo_ok {t : TV} {σ : L2.St} {H : Hp} {Q : Bool → Hp → Prop} (q : tT K T W (tNo t) σ H Q) : tNot (tT K T W t) σ H Q := by
  obtain ⟨G, F, L, e, r, q⟩ := q
  refine ⟨G, F, L, e, r, ?_⟩
  have q : bQ K T W σ (bnd (t e) fun p => .ok (!p.1, p.2)) G F L Q := q
  cases h : t e with
  | bad => rw [h] at q; exact q
  | ex c d e' => rw [h] at q; exact q
  | ok p => rw [h] at q; exact q
theorem eIf_ok {t : TV} {f g : EV} {σ : L2.St} {H : Hp} {Q : VK} (q : tE K T W (eIf t f g) σ H Q) : tIf (tT K T W t) (tE K T W f) (tE K T W g) σ H Q := by
  obtain ⟨G, F, L, e, r, q⟩ := q
  refine ⟨G, F, L, e, r, ?_⟩
  have q : tQ K T W σ (bnd (t e) fun p => if p.1 then f p.2 else g p.2) G F L Q := q
  cases h : t e with
  | bad => rw [h] at q; exact q
  | ex c d e' => rw [h] at q; exact q
  | ok p =>
    obtain ⟨b, e'⟩ := p
    rw [h] at q
    simp only [bnd_ok] at q
    intro H' F' x r'
    have go : ∀ k : EV, tQ K T W σ (k e') G F L Q → tE K T W k σ H' Q := fun k q => by
      refine ⟨G, F', L, e', r', ?_⟩
      cases h2 : k e' with
      | bad => rw [h2] at q; exact q
      | ex c d e2 => rw [h2] at q; exact fun u dx H2 F2 y => q u dx H2 F2 (x.trans y)
      | ok p => rw [h2] at q; exact fun v H2 F2 y => q v H2 F2 (x.trans y)
    cases b with
    | true => exact go f q
    | false => exact go g q
/-- a value, then what follows by its truth -/
theorem tru_then {f : EV} {k : PyData → Bool → Nv → R (PyData × Bool × Nv)} {σ : L2.St} {H : Hp} {Q : VK} (q : tE K T W (fun e => bnd (f e) fun p => match truth p.1 with
    | some b => k p.1 b p.2.2
    | none => .bad) σ H Q) : tE K T W f σ H fun x H1 => ∃ (d : PyData) (b : Bool) (G F : Hp) (L : List (Nat × Addr)) (e : Nv), TruV K x H1 b ∧ Rel K T G F L σ H1 e ∧ Rp K F x d ∧ tQ K T W σ (k d b e) G F L Q := by
  obtain ⟨G, F, L, e, r, q⟩ := q
  refine ⟨G, F, L, e, r, ?_⟩
  have q : tQ K T W σ (bnd (f e) fun p => match truth p.1 with
    | some b => k p.1 b p.2.2
    | none => .bad) G F L Q := q
  cases h : f e with
  | bad => rw [h] at q; exact q
  | ex c d e' => rw [h] at q; exact q
  | ok p =>
    obtain ⟨d, o, e'⟩ := p
    rw [h] at q
    simp only [bnd_ok] at q
    intro v H' F' x r' n
    obtain ⟨F2, x2, r2, rp⟩ := r'.still n
    cases h2 : truth d with
    | none => rw [h2] at q; exact False.elim q
    | some b =>
      rw [h2] at q
      refine ⟨d, b, G, F2, L, e', truV_of (rp.ext r2.fH) h2, r2, rp, ?_⟩
      dsimp only at q
      cases h3 : k d b e' with
      | bad => rw [h3] at q; exact q
      | ex c d e2 => rw [h3] at q; exact fun u dx H2 F2 y => q u dx H2 F2 ((x.trans x2).trans y)
      | ok p => rw [h3] at q; exact fun v H2 F2 y => q v H2 F2 ((x.trans x2).trans y)
theorem eAn_ok {f g : EV} {σ : L2.St} {H : Hp} {Q : VK} (q : tE K T W (eAn f g) σ H Q) : tAndT K (tE K T W f) (tE K T W g) σ H Q := by
  have e : eAn f g = fun e => bnd (f e) fun p => match truth p.1 with
    | some b => (fun d b e => if b = true then g e else .ok (d, false, e)) p.1 b p.2.2
    | none => .bad := by
    funext e
    unfold eAn
    congr 1
    funext p
    split <;> rename_i h <;> simp [h]
  rw [e] at q
  refine tE_mono (fun v H1 h => ?_) (tru_then (k := fun d b e => if b = true then g e else .ok (d, false, e)) q)
  obtain ⟨d, b, G, F, L, e, tv, r, rp, q⟩ := h
  refine ⟨b, tv, ?_⟩
  cases b with
  | true => exact ⟨G, F, L, e, r, q⟩
  | false => exact q v H1 F (Ext.refl F) r rp
theorem eOr_ok {f g : EV} {σ : L2.St} {H : Hp} {Q : VK} (q : tE K T W (eOr f g) σ H Q) : tOrT K (tE K T W f) (tE K T W g) σ H Q := by
  have e : eOr f g = fun e => bnd (f e) fun p => match truth p.1 with
    | some b => (fun d b e => if b = true then .ok (d, false, e) else g e) p.1 b p.2.2
    | none => .bad := by
    funext e
    unfold eOr
    congr 1
    funext p
    split <;> rename_i h <;> simp [h]
  rw [e] at q
  refine tE_mono (fun v H1 h => ?_) (tru_then (k := fun d b e => if b = true then .ok (d, false, e) else g e) q)
  obtain ⟨d, b, G, F, L, e, tv, r, rp, q⟩ := h
  refine ⟨b, tv, ?_⟩
  cases b with
  | false => exact ⟨G, F, L, e, r, q⟩
  | true => exact q v H1 F (Ext.refl F) r rp
theorem eNo_ok {a : Arg} {σ : L2.St} {H : Hp} {Q : VK} (q : tE K T W (eNo a) σ H Q) : tNotT K (tAg K T W a) σ H Q := by
  obtain ⟨G, F, L, e, r, q⟩ := q
  refine arg_ok r ?_
  have q : tQ K T W σ (bnd (evA [a] e) fun p => match p.1 with
    | [d] => (match truth d with
      | some b => .ok (.bool (!b), false, p.2)
      | none => .bad)
    | _ => .bad) G F L Q := q
  cases h : evA [a] e with
  | bad => rw [h] at q; exact q
  | ex c d e' => rw [h] at q; exact q
  | ok p =>
    obtain ⟨ds, e'⟩ := p
    rw [h] at q
    simp only [bnd_ok] at q
    intro vs H' F' x r' n v hv
    subst hv
    match ds, n, q with
    | [d], n, q =>
      cases h2 : truth d with
      | none => simp only [h2] at q; exact False.elim q
      | some b =>
        simp only [h2] at q
        exact ⟨b, truV_of (n.1.rp r'.fH) h2, q _ H' F' x r' (.bl _)⟩
end
section
variable {X : Cx} {T : List Addr} {W : WX} {pos : Pos}
theorem st_cmp {op : CmpOp} {r : R2} {h : Op} {ea eb : Expr} {a b : Arg} (ho : OpR X (compareOp op) r) (hd : OpD X.K (r2 r) h) (ha : SA X T W ea a) (hb : SA X T W eb b) (hm : behindInMarks op eb = false) : ST X T W (.Compare ea [op] [eb] pos) (tOf (eOp h [a, b])) :=
  PT.mono (pt_cmpR ho ha hb hm) fun σ H Q q => r2_of (op_ok hd [a, b] (tOf_ok q)) (tAg_mono a) (tAg_mono b)
theorem st_ar {e : Expr} {a : Arg} (h : SA X T W e a) (he : ∀ whole, isTrue e X.env whole = (do let v ← whole; standAt e.pos; holding [v] (truthy v)) := by intro _; rfl) : ST X T W e (tAr a) :=
  PT.mono (pt_truth h he) fun _ _ _ => tAr_ok
theorem st_no {e : Expr} {t : TV} (h : ST X T W e t) : ST X T W (.UnaryOp .Not e pos) (tNo t) := PT.mono (pt_not h) fun _ _ _ => tNo_ok
theorem st_w {e : Expr} {t : TV} (h : SW X T W e t) : ST X T W e t := h.pt
theorem sw_an1 {e : Expr} {t : TV} (h : ST X T W e t) : SW X T W (.BoolOp .And [e] pos) t := pw_and1 h
theorem sw_or1 {e : Expr} {t : TV} (h : ST X T W e t) : SW X T W (.BoolOp .Or [e] pos) t := pw_or1 h
theorem sw_an {a b : Expr} {r : List Expr} {t u : TV} (ha : ST X T W a t) (hb : SW X T W (.BoolOp .And (b :: r) pos) u) : SW X T W (.BoolOp .And (a :: b :: r) pos) (tAn t u) := PW.mono (pw_and ha hb) fun _ _ _ => tAn_ok
theorem sw_or {a b : Expr} {r : List Expr} {t u : TV} (ha : ST X T W a t) (hb : SW X T W (.BoolOp .Or (b :: r) pos) u) : SW X T W (.BoolOp .Or (a :: b :: r) pos) (tOr t u) := PW.mono (pw_or ha hb) fun _ _ _ => tOr_ok
theorem se_if {c a b : Expr} {t : TV} {f g : EV} (hc : ST X T W c t) (ha : SE X T W a f) (hb : SE X T W b g) : SE X T W (.IfExp c a b pos) (eIf t f g) := PE.mono (pe_ifExp hc ha hb) fun _ _ _ => eIf_ok
theorem se_one {op : BoolOp} {a : Expr} {f : EV} (h : SE X T W a f) : SE X T W (.BoolOp op [a] pos) f := pe_one h
theorem se_an {a b : Expr} {r : List Expr} {f g : EV} (ha : SE X T W a f) (hb : SE X T W (.BoolOp .And (b :: r) pos) g) : SE X T W (.BoolOp .And (a :: b :: r) pos) (eAn f g) := PE.mono (pe_andT ha hb) fun _ _ _ => eAn_ok
theorem se_or {a b : Expr} {r : List Expr} {f g : EV} (ha : SE X T W a f) (hb : SE X T W (.BoolOp .Or (b :: r) pos) g) : SE X T W (.BoolOp .Or (a :: b :: r) pos) (eOr f g) := PE.mono (pe_orT ha hb) fun _ _ _ => eOr_ok
theorem se_no {e : Expr} {a : Arg} (h : SA X T W e a) : SE X T W (.UnaryOp .Not e pos) (eNo a) := PE.mono (pe_notT h) fun _ _ _ => eNo_ok
end
end Py
end
section
set_option Elab.async false
set_option linter.all false
set_option maxRecDepth 100000
/-! Statements. -/
namespace Py
open PySem PySem.Spec PyProof.Rows L2

abbrev fQ (K : Fr) (T : List Addr) (W : WX) (x : R Fl) (G F : Hp) (L : List (Nat × Addr)) (D : Ends) : Prop := match x with
  | .ok (.nx e') => ∀ σ' H' F', Ext F F' → Rel K T G F' L σ' H' e' → D.nx σ' H'
  | .ok (.rt d o e') => ∀ σ' v H' F', Ext F F' → Rel K T G F' L σ' H' e' → Vr K T G F' σ' H' e' v d o → D.rt v H'
  | .ok (.ct e') => ∀ σ' H' F', Ext F F' → Rel K T G F' L σ' H' e' → D.ct σ' H'
  | .ok (.bk e') => ∀ σ' H' F', Ext F F' → Rel K T G F' L σ' H' e' → D.bk σ' H'
  | .ex c d e' => ∀ u dx σ' H' F', Ext F F' → Rel K T G F' L σ' H' e' → ExV K F' c d u dx H' → W u dx σ' H'
  | .bad => False
def tS (K : Fr) (T : List Addr) (W : WX) (s : SV) : TS := fun D σ H => ∃ G F L e, Rel K T G F L σ H e ∧ fQ K T W (s e) G F L D
abbrev SS (X : Cx) (T : List Addr) (W : WX) (st : Stmt) (s : SV) : Prop := PS X st (tS X.K T W s)
abbrev SSs (X : Cx) (T : List Addr) (W : WX) (st : List Stmt) (s : List SV) : Prop := PSs X st (tS X.K T W (sSeq s))
section
variable {K : Fr} {T : List Addr} {W : WX} {G F F' : Hp} {L : List (Nat × Addr)} {σ : L2.St} {H : Hp} {e : Nv} {D : Ends}
theorem fQ.mono {x : R Fl} (h : fQ K T W x G F L D) (ex : Ext F F') : fQ K T W x G F' L D := by
  cases x with
  | bad => exact h
  | ex c d e' => exact fun u dx σ' H' F2 y => h u dx σ' H' F2 (ex.trans y)
  | ok f =>
    cases f with
    | nx e' => exact fun σ' H' F2 y => h σ' H' F2 (ex.trans y)
    | rt d o e' => exact fun σ' v H' F2 y => h σ' v H' F2 (ex.trans y)
    | ct e' => exact fun σ' H' F2 y => h σ' H' F2 (ex.trans y)
    | bk e' => exact fun σ' H' F2 y => h σ' H' F2 (ex.trans y)
theorem tQ.mono {x : R (PyData × Bool × Nv)} {Q : VK} (h : tQ K T W σ x G F L Q) (ex : Ext F F') : tQ K T W σ x G F' L Q := by
  cases x with
  | bad => exact h
  | ex c d e' => exact fun u dx H' F2 y => h u dx H' F2 (ex.trans y)
  | ok f => exact fun v H' F2 y => h v H' F2 (ex.trans y)
theorem bQ.mono {x : R (Bool × Nv)} {Q : Bool → Hp → Prop} (h : bQ K T W σ x G F L Q) (ex : Ext F F') : bQ K T W σ x G F' L Q := by
  cases x with
  | bad => exact h
  | ex c d e' => exact fun u dx H' F2 y => h u dx H' F2 (ex.trans y)
  | ok f => exact fun H' F2 y => h H' F2 (ex.trans y)
/-- what follows an expression -/
theorem e_then {f : EV} {k : PyData → Bool → Nv → R Fl} (r : Rel K T G F L σ H e) (q : fQ K T W (bnd (f e) fun p => k p.1 p.2.1 p.2.2) G F L D) {Q : VK}
    (h : ∀ d o e' v H' F', f e = .ok (d, o, e') → Ext F F' → Rel K T G F' L σ H' e' → Vr K T G F' σ H' e' v d o → fQ K T W (k d o e') G F' L D → Q v H') : tE K T W f σ H Q := by
  refine ⟨G, F, L, e, r, ?_⟩
  cases z : f e with
  | bad => rw [z] at q; exact q
  | ex c d e' => rw [z] at q; exact fun u dx H' F' x r' v => q u dx σ H' F' x r' v
  | ok p =>
    obtain ⟨d, o, e'⟩ := p
    rw [z] at q
    exact fun v H' F' x r' n => h d o e' v H' F' z x r' n (fQ.mono q x)
theorem t_then {t : TV} {k : Bool → Nv → R Fl} (r : Rel K T G F L σ H e) (q : fQ K T W (bnd (t e) fun p => k p.1 p.2) G F L D) {Q : Bool → Hp → Prop}
    (h : ∀ b e' H' F', t e = .ok (b, e') → Ext F F' → Rel K T G F' L σ H' e' → fQ K T W (k b e') G F' L D → Q b H') : tT K T W t σ H Q := by
  refine ⟨G, F, L, e, r, ?_⟩
  cases z : t e with
  | bad => rw [z] at q; exact q
  | ex c d e' => rw [z] at q; exact fun u dx H' F' x r' v => q u dx σ H' F' x r' v
  | ok p =>
    obtain ⟨b, e'⟩ := p
    rw [z] at q
    exact fun H' F' x r' => h b e' H' F' z x r' (fQ.mono q x)
theorem sSeq_ok {s : SV} {l : List SV} (q : tS K T W (sSeq (s :: l)) D σ H) : tSeq (tS K T W s) (tS K T W (sSeq l)) D σ H := by
  obtain ⟨G, F, L, e, r, q⟩ := q
  refine ⟨G, F, L, e, r, ?_⟩
  have q : fQ K T W (bnd (s e) fun f => match f with
    | .nx e' => sSeq l e'
    | f => .ok f) G F L D := q
  cases z : s e with
  | bad => rw [z] at q; exact q
  | ex c d e' => rw [z] at q; exact q
  | ok f =>
    rw [z] at q
    cases f with
    | nx e' => exact fun σ' H' F' x r' => ⟨G, F', L, e', r', fQ.mono q x⟩
    | rt d o e' => exact q
    | ct e' => exact q
    | bk e' => exact q
theorem sIf_ok {t : TV} {a b : SV} (q : tS K T W (sIf t a b) D σ H) : tIfS (tT K T W t) (tS K T W a) (tS K T W b) D σ H := by
  obtain ⟨G, F, L, e, r, q⟩ := q
  refine t_then (k := fun c e => if c then a e else b e) r q fun c e' H' F' _ x r' q' => ?_
  cases c with
  | true => exact ⟨G, F', L, e', r', q'⟩
  | false => exact ⟨G, F', L, e', r', q'⟩
theorem sRet_ok {f : EV} (q : tS K T W (sRet f) D σ H) : tRet (tE K T W f) D σ H := by
  obtain ⟨G, F, L, e, r, q⟩ := q
  refine e_then (k := fun d o e => .ok (.rt d o e)) r q fun d o e' v H' F' _ x r' n q' => ?_
  exact q' σ v H' F' (Ext.refl F') r' n
theorem sRetN_ok (q : tS K T W (sRet (eC .none)) D σ H) : tRetN D σ H := by
  obtain ⟨G, F, L, e, r, q⟩ := q
  exact q σ .non H F (Ext.refl F) r .non
theorem sEx_ok {f : EV} (q : tS K T W (sEx f) D σ H) : tDrop (tE K T W f) D σ H := by
  obtain ⟨G, F, L, e, r, q⟩ := q
  refine e_then (k := fun d o e => .ok (.nx e)) r q fun d o e' v H' F' _ x r' n q' => ?_
  exact q' σ H' F' (Ext.refl F') r'
theorem sPass_ok (q : tS K T W sPass D σ H) : tNext D σ H := by
  obtain ⟨G, F, L, e, r, q⟩ := q
  exact q σ H F (Ext.refl F) r
theorem sCont_ok (q : tS K T W sCont D σ H) : tCont D σ H := by
  obtain ⟨G, F, L, e, r, q⟩ := q
  exact q σ H F (Ext.refl F) r
end
/-! ### targets -/
def tG (K : Fr) (T : List Addr) (g : GV) : TG := fun v σ H Q => ∃ G F L e d o, Rel K T G F L σ H e ∧ Vr K T G F σ H e v d o ∧ match g d o e with
  | some e' => ∀ σ' H' F', Ext F F' → Rel K T G F' L σ' H' e' → Q σ' H'
  | none => False
def tGs (K : Fr) (T : List Addr) (gs : List GV) : TGs := fun vs σ H Q => ∃ G F L e ds, Rel K T G F L σ H e ∧ RpAll K F vs ds ∧ match gTs gs ds e with
  | some e' => ∀ σ' H' F', Ext F F' → Rel K T G F' L σ' H' e' → Q σ' H'
  | none => False
abbrev SG (X : Cx) (T : List Addr) (tg : Expr) (g : GV) : Prop := PG X tg (tG X.K T g)
abbrev SGs (X : Cx) (T : List Addr) (tg : List Expr) (g : List GV) : Prop := PGs X tg (tGs X.K T g)
theorem PG.mono {X : Cx} {e : Expr} {t t' : TG} (h : PG X e t) (m : ∀ v σ H Q, t' v σ H Q → t v σ H Q) : PG X e t' := ⟨fun pins s σ H v u Q I r q => h.run pins s σ H v u Q I r (m v σ H Q q)⟩
theorem PGs.mono {X : Cx} {e : List Expr} {t t' : TGs} (h : PGs X e t) (m : ∀ v σ H Q, t' v σ H Q → t v σ H Q) : PGs X e t' := ⟨fun pins s σ H v u Q I r q => h.run pins s σ H v u Q I r (m v σ H Q q)⟩
section
variable {K : Fr} {T : List Addr} {W : WX} {G F F' : Hp} {L : List (Nat × Addr)} {σ : L2.St} {H : Hp} {e e' : Nv}
theorem gN_some {i : Nat} {d : PyData} {o : Bool} (h : gN i d o e = some e') : i < e.length ∧ (∀ d, gt e i ≠ some (d, .io) ∧ gt e i ≠ some (d, .lk)) ∧ e' = e.set i (some (d, if o then .own else .fz)) := by
  unfold gN at h
  split at h
  · cases h
  · cases h
  · rename_i h1 h2
    split at h
    · rename_i hl
      cases h
      exact ⟨hl, fun d => ⟨fun z => h1 d z, fun z => h2 d z⟩, rfl⟩
    · cases h
theorem gN_rel {i : Nat} {d : PyData} {o : Bool} {v : V} (r : Rel K T G F L σ H e) (n : Vr K T G F σ H e v d o) (h : gN i d o e = some e') : Rel K T G F L (σ.set i (some v)) H e' := by
  obtain ⟨h1, h2, rfl⟩ := gN_some h
  cases o with
  | false => exact r.setFz h1 h2 n
  | true => exact r.setOwn h1 h2 n
theorem gN_ok {i : Nat} {v : V} {Q : L2.St → Hp → Prop} (q : tG K T (gN i) v σ H Q) : gName i v σ H Q := by
  obtain ⟨G, F, L, e, d, o, r, n, q⟩ := q
  cases h : gN i d o e with
  | none => rw [h] at q; exact False.elim q
  | some e' =>
    rw [h] at q
    exact q _ H F (Ext.refl F) (gN_rel r n h)
theorem gT_ok {gs : List GV} {v : V} {Q : L2.St → Hp → Prop} (n : Nat) (hn : gs.length = n) (q : tG K T (gT gs) v σ H Q) : gTup K n (tGs K T gs) v σ H Q := by
  obtain ⟨G, F, L, e, d, o, r, vr, q⟩ := q
  have q : match gT gs d o e with
    | some e' => ∀ σ' H' F', Ext F F' → Rel K T G F' L σ' H' e' → Q σ' H'
    | none => False := q
  cases d with
  | tuple ds =>
    have rp : Rp K F v (.tuple ds) := by
      cases o with
      | false => exact vr
      | true => obtain ⟨a, _, ob, _⟩ := vr; cases ob
    cases rp with
    | tup s ra =>
      have hl : ∀ (gs : List GV) (ds : List PyData) (e e' : Nv), gTs gs ds e = some e' → ds.length = gs.length := by
        intro gs
        induction gs with
        | nil => intro ds e e' h; cases ds with
          | nil => rfl
          | cons _ _ => simp [gTs] at h
        | cons g gs ih => intro ds e e' h; cases ds with
          | nil => simp [gTs] at h
          | cons d ds =>
            simp only [gTs] at h
            split at h
            · rename_i e1 _
              simp [ih ds e1 e' h]
            · cases h
      have q2 : match gTs gs ds e with
        | some e' => ∀ σ' H' F', Ext F F' → Rel K T G F' L σ' H' e' → Q σ' H'
        | none => False := q
      cases h : gTs gs ds e with
      | none => rw [h] at q2; exact False.elim q2
      | some e' =>
        refine ⟨_, _, rfl, SqT.of (r.fH _ _ s), by rw [ra.length, hl gs ds e e' h, hn], G, F, L, e, ds, r, ra, q2⟩
  | none => exact False.elim q
  | bool _ => exact False.elim q
  | int _ => exact False.elim q
  | str _ => exact False.elim q
  | list _ => exact False.elim q
  | dict _ => exact False.elim q
theorem gTs_nil {vs : List V} {Q : L2.St → Hp → Prop} (q : tGs K T [] vs σ H Q) : gNil vs σ H Q := by
  obtain ⟨G, F, L, e, ds, r, ra, q⟩ := q
  cases ra with
  | nil => exact ⟨rfl, q σ H F (Ext.refl F) r⟩
  | cons a b => exact False.elim q
theorem gTs_cons {g : GV} {gs : List GV} {vs : List V} {Q : L2.St → Hp → Prop} (q : tGs K T (g :: gs) vs σ H Q) : gCons (tG K T g) (tGs K T gs) vs σ H Q := by
  obtain ⟨G, F, L, e, ds, r, ra, q⟩ := q
  cases ra with
  | nil => exact False.elim q
  | @cons v vs d ds a b =>
    refine ⟨v, vs, rfl, G, F, L, e, d, false, r, a, ?_⟩
    have q : match (match g d false e with
      | some e' => gTs gs ds e'
      | none => none) with
      | some e' => ∀ σ' H' F', Ext F F' → Rel K T G F' L σ' H' e' → Q σ' H'
      | none => False := q
    cases h : g d false e with
    | none => rw [h] at q; exact q
    | some e1 =>
      rw [h] at q
      intro σ' H' F' x r'
      refine ⟨G, F', L, e1, ds, r', b.ext x, ?_⟩
      dsimp only at q
      cases h2 : gTs gs ds e1 with
      | none => rw [h2] at q; exact q
      | some e2 => rw [h2] at q; exact fun σ2 H2 F2 y => q σ2 H2 F2 (x.trans y)
theorem sAsg_ok {g : GV} {f : EV} {D : Ends} (q : tS K T W (sAsg g f) D σ H) : tAsg (tE K T W f) (tG K T g) D σ H := by
  obtain ⟨G, F, L, e, r, q⟩ := q
  refine e_then (k := fun d o e => match g d o e with
    | some e' => .ok (.nx e')
    | none => .bad) r q fun d o e' v H' F' _ x r' n q' => ?_
  refine ⟨G, F', L, e', d, o, r', n, ?_⟩
  cases h : g d o e' with
  | none => rw [h] at q'; exact q'
  | some e2 => rw [h] at q'; exact q'
theorem sAug_ok {i : Nat} {h : Op} {a : Arg} {r : R2} (o : OpD K (Py.r2 r) h) {D : Ends} (q : tS K T W (sAug i h a) D σ H) : tAug i (tAg K T W a) r D σ H := by
  obtain ⟨G, F, L, e, rel, q⟩ := q
  have q0 : fQ K T W (bnd (evA [.pk i, a] e) fun p => match h p.1 with
    | some (d, o) => (match gN i d o p.2 with
      | some e' => .ok (.nx e')
      | none => .bad)
    | none => .bad) G F L D := q
  -- the slot is there
  have hs : ∃ x, σ[i]? = some (some x) := by
    cases hg : gt e i with
    | some p => obtain ⟨d, t⟩ := p; obtain ⟨v, hv, _⟩ := rel.now hg; exact ⟨v, hv⟩
    | none =>
      have : evA [.pk i, a] e = .bad := by
        show (if (gt e i).isSome = true then _ else R.bad) = _
        rw [hg]; rfl
      rw [this] at q0
      exact False.elim q0
  obtain ⟨x, hx⟩ := hs
  refine ⟨x, hx, ?_⟩
  have m : tAs ([Arg.pk i, a].map (tAg K T W)) σ H fun vs H1 => Py.r2 r vs H1 fun z H2 => D.nx (σ.set i (some z)) H2 := by
    refine args_ok [.pk i, a] rel ?_
    cases h1 : evA [.pk i, a] e with
    | bad => rw [h1] at q0; exact q0
    | ex c d e' => rw [h1] at q0; exact fun u dx H' F' y r' v => q0 u dx σ H' F' y r' v
    | ok p =>
      rw [h1] at q0
      simp only [bnd_ok] at q0
      intro vs H' F' y r' n
      cases h2 : h p.1 with
      | none => rw [h2] at q0; exact False.elim q0
      | some z =>
        obtain ⟨d, b⟩ := z
        rw [h2] at q0
        refine o F' H' vs p.1 d b _ r'.fH n h2 fun v H2 F2 y1 y2 y3 y4 nv => ?_
        have r2 := r'.grow y1 y2 y3 y4
        dsimp only at q0
        cases h3 : gN i d b p.2 with
        | none => rw [h3] at q0; exact False.elim q0
        | some e' =>
          rw [h3] at q0
          exact q0 _ H2 F2 (y.trans y1) (gN_rel r2 (newV_vr r' nv) h3)
  obtain ⟨v, hv, m⟩ := m
  rw [hx] at hv
  cases hv
  refine tAg_mono a σ H _ _ (fun y H1 h1 => ?_) m
  obtain ⟨x', y', e1, q1⟩ : Py.r2 r [x, y] H1 _ := h1
  cases e1
  exact q1
end
section
variable {X : Cx} {T : List Addr} {W : WX} {pos : Pos}
theorem sss_nil : SSs X T W [] [] := PSs.mono pss_nil fun D σ H q => by
  obtain ⟨G, F, L, e, r, q⟩ := q
  exact q σ H F (Ext.refl F) r
theorem sss_cons {st : Stmt} {rest : List Stmt} {s : SV} {l : List SV} (h1 : SS X T W st s) (h2 : SSs X T W rest l) : SSs X T W (st :: rest) (s :: l) := PSs.mono (pss_cons h1 h2) fun _ _ _ => sSeq_ok
theorem ss_if {c : Expr} {a b : List Stmt} {t : TV} {la lb : List SV} (hc : ST X T W c t) (ha : SSs X T W a la) (hb : SSs X T W b lb) : SS X T W (.If c a b pos) (sIf t (sSeq la) (sSeq lb)) := PS.mono (ps_if hc ha hb) fun _ _ _ => sIf_ok
theorem ss_ret {e : Expr} {f : EV} (h : SE X T W e f) : SS X T W (.Return (some e) pos) (sRet f) := PS.mono (ps_ret h) fun _ _ _ => sRet_ok
theorem ss_retN : SS X T W (.Return none pos) (sRet (eC .none)) := PS.mono ps_retN fun _ _ _ => sRetN_ok
theorem ss_ex {e : Expr} {f : EV} (h : SE X T W e f) (hs : swapsWith e none pos.line X.env = pure false := by rfl) : SS X T W (.Expr e pos) (sEx f) := PS.mono (ps_expr h hs) fun _ _ _ => sEx_ok
theorem ss_pass : SS X T W (.Pass pos) sPass := PS.mono ps_pass fun _ _ _ => sPass_ok
theorem ss_cont : SS X T W (.Continue pos) sCont := PS.mono ps_continue fun _ _ _ => sCont_ok
theorem sg_n {i : Nat} {x : Str} (hN : X.N.Nodup) (hi : X.N[i]? = some x) (hx : Loc X.env.scope x) (hf : X.fn x = true ∨ X.env.scope.names.lookup x = some .local := by first | exact .inl rfl | exact .inr rfl | assumption) : SG X T (.Name x pos) (gN i) := PG.mono (pg_name hN hi hx hf) fun _ _ _ _ => gN_ok
theorem sg_t {es : List Expr} {k n : Nat} {gs : List GV} (hc : X.calm = true) (h : SGs X T es gs) (hl : gs.length = n := by rfl)
    (hn : (assignEach es X.env).length = n := by rfl) (hst : (assignEach es X.env).findIdx? (·.1) = none := by rfl) : SG X T (.Tuple es k pos) (gT gs) := PG.mono (pg_tup hc h hn hst) fun _ _ _ _ => gT_ok n hl
theorem sgs_nil : SGs X T [] [] := PGs.mono pgs_nil fun _ _ _ _ => gTs_nil
theorem sgs_cons {e : Expr} {es : List Expr} {g : GV} {gs : List GV} (h1 : SG X T e g) (h2 : SGs X T es gs)
    (hs : (assignEach (e :: es) X.env).map (·.2) = assign e X.env :: (assignEach es X.env).map (·.2) := by rfl) : SGs X T (e :: es) (g :: gs) := PGs.mono (pgs_cons h1 h2 hs) fun _ _ _ _ => gTs_cons
theorem ss_asg {tg e : Expr} {f : EV} {g : GV} (he : SE X T W e f) (hg : SG X T tg g) (hs : swapsWithSole [tg] e pos.line X.env = pure false := by rfl) (hw : swappedStores [tg] e X.env = pure none := by rfl)
    (h1 : (assignEach [tg] X.env).map (·.2) = [assign tg X.env] := by rfl) : SS X T W (.Assign [tg] e pos) (sAsg g f) := PS.mono (ps_asg he hg hs hw h1) fun _ _ _ => sAsg_ok
theorem ss_aug {i : Nat} {x : Str} {e : Expr} {a : Arg} {op : Operator} {r : R2} {h : Op} {pos' : Pos} (hN : X.N.Nodup) (hi : X.N[i]? = some x) (hx : Loc X.env.scope x) (he : SA X T W e a) (ho : OpR X (inplaceOp op) r) (hd : OpD X.K (r2 r) h)
    (hf : X.fn x = true ∨ X.env.scope.names.lookup x = some .local := by first | exact .inl rfl | exact .inr rfl | assumption) : SS X T W (.AugAssign (.Name x pos') op e pos) (sAug i h a) := PS.mono (ps_aug hN hi hx he ho hf) fun _ _ _ => sAug_ok hd
end
end Py
end
section
set_option Elab.async false
set_option linter.all false
set_option maxRecDepth 100000
/-! Values handed over with their ownership; walks; loops. -/
namespace Py
open PySem PySem.Spec PyProof.Rows L2

section
variable {K : Fr} {T : List Addr} {W : WX} {G F F' : Hp} {L : List (Nat × Addr)} {σ : L2.St} {H H' : Hp} {e e' : Nv}
/-- an object of nobody's is another's for a while -/
theorem Rel.addG {a : Addr} {u : HO} (r : Rel K T G F L σ H e) (hu : H a = some u) (hG : G a = none) (hF : F a = none) (hT : ∀ P ∈ T, P ≠ a) (hs : ∀ i d t, gt e i = some (d, t) → (t = .own ∨ t = .io) → σ[i]? ≠ some (some (.ref a))) : Rel K T (upd G a u) F L σ H e := by
  have ex : Ext G (upd G a u) := Ext.upd hG
  refine ⟨r.len, fun b o x => ?_, r.fH, fun b o x => ?_, fun P hP => ?_, r.fz, fun i d x => ?_, fun i d x => ?_, fun i d x => let ⟨a, x0, x1, x2⟩ := r.lk i d x; ⟨a, x0, x1, x2.ext (Ext.refl F) fun _ z => ex _ _ z⟩, r.pin, r.apart⟩
  · by_cases hb : b = a
    · subst hb; rw [upd_same] at x; cases x; exact hu
    · rw [upd_ne hb] at x; exact r.gH b o x
  · by_cases hb : b = a
    · subst hb; rw [hF] at x; cases x
    · rw [upd_ne hb]; exact r.gf b o x
  · obtain ⟨t, f, g⟩ := r.tb P hP
    exact ⟨t, f, by rw [upd_ne (hT P hP)]; exact g⟩
  · obtain ⟨b, x1, x2, x3, x4⟩ := r.own i d x
    exact ⟨b, x1, x2, by rw [upd_ne (fun z => hs i d _ x (.inl rfl) (by rw [x1, z]))]; exact x3, x4⟩
  · obtain ⟨b, x0, x1, x2, x3, x4⟩ := r.io i d x
    exact ⟨b, x0, x1, x2, by rw [upd_ne (fun z => hs i d _ x (.inr rfl) (by rw [x1, z]))]; exact x3, x4⟩
/-- .. and back -/
theorem Rel.unG {a : Addr} {u : HO} (r : Rel K T (upd G a u) F L σ H e) (hG : G a = none) (hL : ∀ i, (i, a) ∉ L) : Rel K T G F L σ H e := by
  have ex : Ext G (upd G a u) := Ext.upd hG
  refine ⟨r.len, ex.trans r.gH, r.fH, fun b o x => ex.none (r.gf b o x), fun P hP => let ⟨t, f, g⟩ := r.tb P hP; ⟨t, f, ex.none g⟩, r.fz, fun i d x => let ⟨b, x1, x2, x3, x4⟩ := r.own i d x; ⟨b, x1, x2, ex.none x3, x4⟩,
    fun i d x => let ⟨b, x0, x1, x2, x3, x4⟩ := r.io i d x; ⟨b, x0, x1, x2, ex.none x3, x4⟩, fun i d x => ?_, r.pin, r.apart⟩
  obtain ⟨b, x0, x1, x2⟩ := r.lk i d x
  have hb : b ≠ a := fun z => hL i (z ▸ x0)
  exact ⟨b, x0, x1, x2.ext (Ext.refl F) fun w z => by rw [upd_ne hb] at z; exact z⟩
theorem Vr.notL {v : V} {d : PyData} {a : Addr} (r : Rel K T G F L σ H e) (hG : G a = none) (hs : ∀ i d t, gt e i = some (d, t) → (t = .own ∨ t = .io) → σ[i]? ≠ some (some (.ref a))) : ∀ i, (i, a) ∉ L := fun i m => by
  obtain ⟨p, d, q | q⟩ := r.pin i a m
  · exact hs i d _ q (.inr rfl) p
  · obtain ⟨b, x0, x1, x2⟩ := r.lk i d q
    rw [p] at x1; cases x1
    obtain ⟨u, z⟩ := x2.there
    rw [hG] at z; cases z
end
/-- values with their ownership: new objects are apart -/
def NoOwn (v : V) (vs : List V) (ds : List (PyData × Bool)) : Prop := ∀ w d, (w, (d, true)) ∈ vs.zip ds → w ≠ v
def VrL (K : Fr) (T : List Addr) (G F : Hp) (σ : L2.St) (H : Hp) (e : Nv) : List V → List (PyData × Bool) → Prop
  | [], [] => True
  | v :: vs, (d, o) :: ds => Vr K T G F σ H e v d o ∧ (o = true → NoOwn v vs ds) ∧ VrL K T G F σ H e vs ds
  | _, _ => False
section
variable {K : Fr} {T : List Addr} {W : WX}
theorem VrL.unG {G F : Hp} {σ : L2.St} {H : Hp} {e : Nv} {a : Addr} {u : HO} (hG : G a = none) : ∀ {vs : List V} {ds : List (PyData × Bool)}, VrL K T (upd G a u) F σ H e vs ds → VrL K T G F σ H e vs ds
  | [], [], h => h
  | [], _ :: _, h => h
  | _ :: _, [], h => h
  | v :: vs, (d, o) :: ds, ⟨h1, h2, h3⟩ => by
    refine ⟨?_, h2, h3.unG hG⟩
    cases o with
    | false => exact h1
    | true => obtain ⟨b, x1, x2, x3, x4, x5⟩ := h1; exact ⟨b, x1, x2, (Ext.upd hG).none x3, x4, x5⟩
/-- no new object of the list is one of G's -/
theorem VrL.noG {G F : Hp} {σ : L2.St} {H : Hp} {e : Nv} {a : Addr} {u : HO} (hu : G a = some u) : ∀ {vs : List V} {ds : List (PyData × Bool)}, VrL K T G F σ H e vs ds → NoOwn (.ref a) vs ds
  | [], _, _ => fun w d h => by simp at h
  | _ :: _, [], h => fun w d h => by simp at h
  | v :: vs, (d, o) :: ds, ⟨h1, _, h3⟩ => fun w d' h => by
    rw [List.zip_cons_cons, List.mem_cons] at h
    rcases h with h | h
    · cases h
      obtain ⟨b, x1, x2, x3, x4, x5⟩ := h1
      rintro rfl
      cases x1
      rw [hu] at x3; cases x3
    · exact VrL.noG hu h3 w d' h
abbrev oQ (K : Fr) (T : List Addr) (W : WX) (σ : L2.St) (x : R (List (PyData × Bool) × Nv)) (G F : Hp) (L : List (Nat × Addr)) (Q : List V → Hp → Prop) : Prop := match x with
  | .ok (ds, e') => ∀ vs H' F', Ext F F' → Rel K T G F' L σ H' e' → VrL K T G F' σ H' e' vs ds → Q vs H'
  | .ex c d e' => ∀ u dx H' F', Ext F F' → Rel K T G F' L σ H' e' → ExV K F' c d u dx H' → W u dx σ H'
  | .bad => False
theorem vals_ok : ∀ (fs : List EV) {σ : L2.St} {H : Hp} {G F : Hp} {L : List (Nat × Addr)} {e : Nv} {Q : List V → Hp → Prop}, Rel K T G F L σ H e → oQ K T W σ (evO fs e) G F L Q → tAs (fs.map (tE K T W)) σ H Q
  | [], σ, H, G, F, L, e, Q, r, q => q [] H F (Ext.refl F) r trivial
  | f :: fs, σ, H, G, F, L, e, Q, r, q => by
    refine ⟨G, F, L, e, r, ?_⟩
    have q : oQ K T W σ (bnd (f e) fun p => bnd (evO fs p.2.2) fun q => .ok ((p.1, p.2.1) :: q.1, q.2)) G F L Q := q
    cases h : f e with
    | bad => rw [h] at q; exact q
    | ex c d e' => rw [h] at q; exact q
    | ok p =>
      obtain ⟨d, o, e1⟩ := p
      rw [h] at q
      have q : oQ K T W σ (bnd (evO fs e1) fun q => .ok ((d, o) :: q.1, q.2)) G F L Q := q
      intro v H1 F1 x1 r1 vr
      cases o with
      | false =>
        refine vals_ok fs (Q := fun xs H2 => Q (v :: xs) H2) r1 ?_
        cases h2 : evO fs e1 with
        | bad => rw [h2] at q; exact q
        | ex c d e' => rw [h2] at q; exact fun u dx H' F' x3 => q u dx H' F' (x1.trans x3)
        | ok p =>
          rw [h2] at q
          exact fun vs H' F' x3 r3 n => q (v :: vs) H' F' (x1.trans x3) r3 ⟨Rp.ext x3 vr, fun z => (by cases z), n⟩
      | true =>
        obtain ⟨a, rfl, ob, hG, hF, hs⟩ := vr
        obtain ⟨u, hu⟩ := ob.there
        have hT : ∀ P ∈ T, P ≠ a := fun P hP => ob.notTab (r1.tb P hP).1
        have hL := Vr.notL (v := .ref a) (d := d) r1 hG hs
        refine vals_ok fs (Q := fun xs H2 => Q (.ref a :: xs) H2) (r1.addG hu hG hF hT hs) ?_
        cases h2 : evO fs e1 with
        | bad => rw [h2] at q; exact q
        | ex c d e' => rw [h2] at q; exact fun w dx H' F' x3 r3 => q w dx H' F' (x1.trans x3) (r3.unG hG hL)
        | ok p =>
          rw [h2] at q
          intro vs H' F' x3 r3 n
          have hu' : H' a = some u := r3.gH a u upd_same
          have hF' : F' a = none := by
            cases z : F' a with
            | none => rfl
            | some o => have y := r3.gf a o z; rw [upd_same] at y; cases y
          refine q (.ref a :: vs) H' F' (x1.trans x3) (r3.unG hG hL) ⟨⟨a, rfl, ob.ext x3 fun w z => by rw [hu] at z; cases z; exact hu', hG, hF', fun i d' t z w y => ?_⟩, fun _ => n.noG upd_same, n.unG hG⟩
          rcases w with rfl | rfl
          · obtain ⟨b, y1, y2, y3, y4⟩ := r3.own i d' z
            rw [y] at y1; cases y1
            rw [upd_same] at y3; cases y3
          · obtain ⟨b, y0, y1, y2, y3, y4⟩ := r3.io i d' z
            rw [y] at y1; cases y1
            rw [upd_same] at y3; cases y3
/-- stored one by one -/
def setAll (σ : L2.St) : List Nat → List V → L2.St
  | i :: is, v :: vs => setAll (σ.set i (some v)) is vs
  | _, _ => σ
theorem stA_rel {G F : Hp} {L : List (Nat × Addr)} {H : Hp} : ∀ (is : List Nat) {σ : L2.St} {e e' : Nv} {vs : List V} {ds : List (PyData × Bool)}, Rel K T G F L σ H e → VrL K T G F σ H e vs ds → stA is ds e = some e' → Rel K T G F L (setAll σ is vs) H e'
  | [], σ, e, e', vs, ds, r, n, h => by
    cases ds with
    | nil => cases h; exact r
    | cons _ _ => simp [stA] at h
  | i :: is, σ, e, e', [], ds, r, n, h => by
    cases ds with
    | nil => simp [stA] at h
    | cons _ _ => exact False.elim n
  | i :: is, σ, e, e', v :: vs, ds, r, n, h => by
    cases ds with
    | nil => exact False.elim n
    | cons p ds =>
      obtain ⟨d, o⟩ := p
      obtain ⟨n1, n2, n3⟩ := n
      simp only [stA] at h
      split at h
      · rename_i e1 h1
        refine stA_rel is (gN_rel r n1 h1) ?_ h
        obtain ⟨hl, hn, rfl⟩ := gN_some h1
        have key : ∀ {vs : List V} {ds : List (PyData × Bool)}, (o = true → NoOwn v vs ds) → VrL K T G F σ H e vs ds → VrL K T G F (σ.set i (some v)) H (e.set i (some (d, if o then .own else .fz))) vs ds := by
          intro vs
          induction vs with
          | nil => intro ds _ h; cases ds with
            | nil => trivial
            | cons _ _ => exact False.elim h
          | cons w vs ih => intro ds no h; cases ds with
            | nil => exact False.elim h
            | cons p ds =>
              obtain ⟨d2, o2⟩ := p
              obtain ⟨m1, m2, m3⟩ := h
              refine ⟨?_, m2, ih (fun z w d q => no z w d (by rw [List.zip_cons_cons]; exact List.mem_cons_of_mem _ q)) m3⟩
              cases o2 with
              | false => exact m1
              | true =>
                obtain ⟨b, rfl, y2, y3, y4, y5⟩ := m1
                refine ⟨b, rfl, y2, y3, y4, fun j d' t z w y => ?_⟩
                rcases gt_of_set z with ⟨rfl, z, _⟩ | ⟨z, z'⟩
                · rw [List.getElem?_set_self (by have := r.len; omega)] at y
                  cases y
                  cases o with
                  | false => cases z; rcases w with w | w <;> cases w
                  | true => exact no rfl (.ref b) d2 (by rw [List.zip_cons_cons]; exact List.mem_cons_self) rfl
                · rw [List.getElem?_set_ne z] at y
                  exact y5 j d' t z' w y
        exact key n2 n3
      · cases h
theorem stA_len : ∀ (is : List Nat) {ds : List (PyData × Bool)} {e e' : Nv}, stA is ds e = some e' → ds.length = is.length
  | [], [], _, _, _ => rfl
  | [], _ :: _, _, _, h => by simp [stA] at h
  | _ :: _, [], _, _, h => by simp [stA] at h
  | i :: is, (d, o) :: ds, e, e', h => by
    simp only [stA] at h
    split at h
    · rename_i e1 _; simp [stA_len is h]
    · cases h
theorem VrL.length {G F : Hp} {σ : L2.St} {H : Hp} {e : Nv} : ∀ {vs : List V} {ds : List (PyData × Bool)}, VrL K T G F σ H e vs ds → vs.length = ds.length
  | [], [], _ => rfl
  | [], _ :: _, h => False.elim h
  | _ :: _, [], h => False.elim h
  | v :: vs, (d, o) :: ds, ⟨_, _, h3⟩ => by simp [VrL.length h3]
theorem sPar_ok {is : List Nat} {fs : List EV} {D : Ends} {σ : L2.St} {H : Hp} (q : tS K T W (sPar is fs) D σ H) : tAs (fs.map (tE K T W)) σ H fun vs H1 => vs.length = is.length ∧ D.nx (setAll σ is vs) H1 := by
  obtain ⟨G, F, L, e, r, q⟩ := q
  refine vals_ok fs r ?_
  have q : fQ K T W (bnd (evO fs e) fun p => match stA is p.1 p.2 with
    | some e' => .ok (.nx e')
    | none => .bad) G F L D := q
  cases h : evO fs e with
  | bad => rw [h] at q; exact q
  | ex c d e' => rw [h] at q; exact fun u dx H' F' => q u dx σ H' F'
  | ok p =>
    rw [h] at q
    simp only [bnd_ok] at q
    intro vs H' F' x r' n
    cases h2 : stA is p.1 p.2 with
    | none => rw [h2] at q; exact False.elim q
    | some e2 =>
      rw [h2] at q
      exact ⟨by rw [n.length, stA_len is h2], q _ H' F' x (stA_rel is r' n h2)⟩
theorem tAs_mono : ∀ (fs : List EV) {σ : L2.St} {H : Hp} {Q Q' : List V → Hp → Prop}, (∀ vs H, Q vs H → Q' vs H) → tAs (fs.map (tE K T W)) σ H Q → tAs (fs.map (tE K T W)) σ H Q'
  | [], _, _, _, _, h, q => h _ _ q
  | f :: fs, _, _, _, _, h, q => tE_mono (fun v H1 q1 => tAs_mono fs (fun vs H2 => h (v :: vs) H2) q1) q
end
section
variable {X : Cx} {T : List Addr} {W : WX} {pos : Pos}
abbrev SVs (X : Cx) (T : List Addr) (W : WX) (es : List Expr) (fs : List EV) : Prop := PA X es (tAs (fs.map (tE X.K T W)))
theorem svs_nil : SVs X T W [] [] := pa_nil
theorem svs_cons {e : Expr} {es : List Expr} {f : EV} {fs : List EV} (h : SE X T W e f) (hs : SVs X T W es fs) (st : starEach (e :: es) X.env = (false, eval e X.env) :: starEach es X.env := by rfl) : SVs X T W (e :: es) (f :: fs) := pa_cons h hs st
theorem ss_par {i j : Nat} {x y : Str} {a b : Expr} {f g : EV} {px py pt : Pos} {kt k2 pt2} (hc : X.calm = true) (hN : X.N.Nodup) (hi : X.N[i]? = some x) (hj : X.N[j]? = some y) (hij : i ≠ j)
    (hx : X.env.scope.names.lookup x = some .local) (hy : X.env.scope.names.lookup y = some .local) (ha : SVs X T W [a, b] [f, g])
    (hw : swappedStores [.Tuple [.Name x px, .Name y py] kt pt] (.Tuple [a, b] k2 pt2) X.env = pure (some [x, y]))
    (hs : swapsWithSole [.Tuple [.Name x px, .Name y py] kt pt] (.Tuple [a, b] k2 pt2) pos.line X.env = pure false := by rfl) :
    SS X T W (.Assign [.Tuple [.Name x px, .Name y py] kt pt] (.Tuple [a, b] k2 pt2) pos) (sPar [i, j] [f, g]) :=
  PS.mono (ps_par hc hN hi hj hij hx hy ha hw hs) fun D σ H q => tAs_mono [f, g] (fun vs H1 h => by
    obtain ⟨h1, h2⟩ := h
    match vs, h1, h2 with
    | [v, w], _, h2 => exact ⟨v, w, rfl, h2⟩) (sPar_ok q)
theorem ss_par3 {i j l : Nat} {x y z : Str} {a b c : Expr} {f g h : EV} {px py pz pt : Pos} {kt k2 pt2} (hc : X.calm = true) (hN : X.N.Nodup) (hi : X.N[i]? = some x) (hj : X.N[j]? = some y) (hl : X.N[l]? = some z) (hij : i ≠ j) (hil : i ≠ l) (hjl : j ≠ l)
    (hx : X.env.scope.names.lookup x = some .local) (hy : X.env.scope.names.lookup y = some .local) (hz : X.env.scope.names.lookup z = some .local) (ha : SVs X T W [a, b, c] [f, g, h])
    (hw : swappedStores [.Tuple [.Name x px, .Name y py, .Name z pz] kt pt] (.Tuple [a, b, c] k2 pt2) X.env = pure (some [x, y, z]))
    (hs : swapsWithSole [.Tuple [.Name x px, .Name y py, .Name z pz] kt pt] (.Tuple [a, b, c] k2 pt2) pos.line X.env = pure false := by rfl) :
    SS X T W (.Assign [.Tuple [.Name x px, .Name y py, .Name z pz] kt pt] (.Tuple [a, b, c] k2 pt2) pos) (sPar [i, j, l] [f, g, h]) :=
  PS.mono (ps_par3 hc hN hi hj hl hij hil hjl hx hy hz ha hw hs) fun D σ H q => tAs_mono [f, g, h] (fun vs H1 h => by
    obtain ⟨h1, h2⟩ := h
    match vs, h1, h2 with
    | [u, v, w], _, h2 => exact ⟨u, v, w, rfl, h2⟩) (sPar_ok q)
/-- arguments, each a value that never changes -/
theorem evV_evO {K : Fr} : ∀ (fs : List EV) {σ : L2.St} {H : Hp} {G F : Hp} {L : List (Nat × Addr)} {e : Nv} {Q : List V → Hp → Prop}, Rel K T G F L σ H e → (match evV fs e with
    | .ok (ds, e') => ∀ vs H' F', Ext F F' → Rel K T G F' L σ H' e' → RpAll K F' vs ds → Q vs H'
    | .ex c d e' => ∀ u dx H' F', Ext F F' → Rel K T G F' L σ H' e' → ExV K F' c d u dx H' → W u dx σ H'
    | .bad => False) → tAs (fs.map (tE K T W)) σ H Q
  | [], σ, H, G, F, L, e, Q, r, q => q [] H F (Ext.refl F) r .nil
  | f :: fs, σ, H, G, F, L, e, Q, r, q => by
    refine ⟨G, F, L, e, r, ?_⟩
    have q : (match bnd (f e) fun p => bnd (evV fs p.2.2) fun q => R.ok (p.1 :: q.1, q.2) with
      | .ok (ds, e') => ∀ vs H' F', Ext F F' → Rel K T G F' L σ H' e' → RpAll K F' vs ds → Q vs H'
      | .ex c d e' => ∀ u dx H' F', Ext F F' → Rel K T G F' L σ H' e' → ExV K F' c d u dx H' → W u dx σ H'
      | .bad => False) := q
    cases h : f e with
    | bad => rw [h] at q; exact q
    | ex c d e' => rw [h] at q; exact q
    | ok p =>
      obtain ⟨d, o, e1⟩ := p
      rw [h] at q
      intro v H1 F1 x1 r1 vr
      obtain ⟨F2, x2, r2, rp⟩ := r1.still vr
      refine evV_evO fs (Q := fun xs H2 => Q (v :: xs) H2) r2 ?_
      simp only [bnd_ok] at q
      cases h2 : evV fs e1 with
      | bad => rw [h2] at q; exact q
      | ex c d e' => rw [h2] at q; exact fun u dx H' F' x3 => q u dx H' F' ((x1.trans x2).trans x3)
      | ok p =>
        rw [h2] at q
        exact fun vs H' F' x3 r3 n => q (v :: vs) H' F' ((x1.trans x2).trans x3) r3 (.cons (rp.ext x3) n)
end
end Py
end
section
set_option Elab.async false
set_option linter.all false
set_option maxRecDepth 100000
/-! Walks, for, while, comprehensions. -/
namespace Py
open PySem PySem.Spec PyProof.Rows L2

/-- an iterator that gives the data ds, one a turn, whatever else happens -/
def WkD (K : Fr) (G F : Hp) (J : It) (ds : List PyData) : Prop := ∃ (GW : Hp → Prop) (Y : Nat → Hp → V → Hp → Prop), Walk J ds.length GW Y ∧ (∀ H, Ext F H → Ext G H → GW H) ∧
  ∀ i H x H' F2 d, Ext F F2 → Ext F2 H → ds[i]? = some d → Y i H x H' → ∃ F3, Ext F2 F3 ∧ Ext F3 H' ∧ Ext H H' ∧ (∀ a o, F3 a = some o → (∃ u, F2 a = some u) ∨ H a = none) ∧ Rp K F3 x d
abbrev iQ (K : Fr) (T : List Addr) (W : WX) (σ : L2.St) (x : R (List PyData × Nv)) (G F : Hp) (L : List (Nat × Addr)) (Q : It → Hp → Prop) : Prop := match x with
  | .ok (ds, e') => ∀ J H' F', Ext F F' → Rel K T G F' L σ H' e' → WkD K G F' J ds → Q J H'
  | .ex c d e' => ∀ u dx H' F', Ext F F' → Rel K T G F' L σ H' e' → ExV K F' c d u dx H' → W u dx σ H'
  | .bad => False
def tI (K : Fr) (T : List Addr) (W : WX) (it : IV) : TI := fun σ H Q => ∃ G F L e, Rel K T G F L σ H e ∧ iQ K T W σ (it e) G F L Q
abbrev SI (X : Cx) (T : List Addr) (W : WX) (tg e : Expr) (it : IV) : Prop := PI X tg e (tI X.K T W it)
theorem PI.mono {X : Cx} {tg e : Expr} {t t' : TI} (h : PI X tg e t) (m : ∀ σ H Q, t' σ H Q → t σ H Q) : PI X tg e t' := ⟨fun pins s σ H Q I q => h.run pins s σ H Q I (m σ H Q q)⟩
section
variable {K : Fr} {T : List Addr} {W : WX} {G F : Hp} {L : List (Nat × Addr)} {σ : L2.St} {H : Hp} {e : Nv} {D : Ends}
theorem drop_at {α : Type} {l : List α} {i : Nat} (h : i < l.length) : ∃ d, l[i]? = some d ∧ l.drop i = d :: l.drop (i + 1) := ⟨l[i], List.getElem?_eq_getElem h, List.drop_eq_getElem_cons h⟩
/-- the loop itself -/
theorem for_ok {g : GV} {body : SV} {J : It} {ds : List PyData} (r : Rel K T G F L σ H e) (w : WkD K G F J ds) (q : fQ K T W (forL g body ds e) G F L D) :
    ∃ W' : Nat → Nat → L2.St → Hp → Prop, (∃ m, W' 0 m σ H) ∧ ∀ i m σ H, W' i m σ H →
      (J.stop i H ∧ D.nx σ H) ∨ (J.go i H ∧ ∃ N : L2.St → Hp → Prop, (∀ σ' H', N σ' H' → ∃ m', m' < m ∧ W' (i + 1) m' σ' H') ∧ ∀ x H', J.yld i H x H' → tG K T g x σ H' fun σ2 H2 => tS K T W body { D with nx := N, ct := N, bk := D.nx } σ2 H2) := by
  obtain ⟨GW, Y, wk, hg, hy⟩ := w
  refine for_it wk (fun i σ' H' => ∃ F' e', Ext F F' ∧ Rel K T G F' L σ' H' e' ∧ fQ K T W (forL g body (ds.drop i) e') G F' L D) ⟨F, e, Ext.refl F, r, by simpa using q⟩ ?_ ?_ ?_
  · rintro i σ' H' hi ⟨F', e', x, r', _⟩
    exact hg H' (x.trans r'.fH) r'.gH
  · rintro i x σ1 H1 H2 hi ⟨F1, e1, x1, r1, q1⟩ y
    obtain ⟨d, hd, hdr⟩ := drop_at hi
    obtain ⟨F3, z1, z2, z3, z4, rp⟩ := hy i H1 x H2 F1 d x1 r1.fH hd y
    rw [hdr] at q1
    refine ⟨G, F3, L, e1, d, false, r1.grow z1 z2 z3 z4, rp, ?_⟩
    have q1 : fQ K T W (match g d false e1 with
      | some e1 => bnd (body e1) fun f => match f with
        | .nx e2 => forL g body (ds.drop (i + 1)) e2
        | .ct e2 => forL g body (ds.drop (i + 1)) e2
        | .bk e2 => .ok (.nx e2)
        | f => .ok f
      | none => .bad) G F1 L D := q1
    cases hge : g d false e1 with
    | none => rw [hge] at q1; exact False.elim q1
    | some e2 =>
      rw [hge] at q1
      intro σ4 H4 F4 y1 r4
      refine ⟨G, F4, L, e2, r4, ?_⟩
      dsimp only at q1
      cases hb : body e2 with
      | bad => rw [hb] at q1; exact q1
      | ex c d' e' => rw [hb] at q1; exact fun u dx σ' H' F' y2 => q1 u dx σ' H' F' ((z1.trans y1).trans y2)
      | ok f =>
        rw [hb] at q1
        cases f with
        | nx e' => exact fun σ' H' F' y2 r' => ⟨F', e', ((x1.trans z1).trans y1).trans y2, r', fQ.mono q1 ((z1.trans y1).trans y2)⟩
        | ct e' => exact fun σ' H' F' y2 r' => ⟨F', e', ((x1.trans z1).trans y1).trans y2, r', fQ.mono q1 ((z1.trans y1).trans y2)⟩
        | bk e' => exact fun σ' H' F' y2 r' => q1 σ' H' F' ((z1.trans y1).trans y2) r'
        | rt d' o e' => exact fun σ' v H' F' y2 r' => q1 σ' v H' F' ((z1.trans y1).trans y2) r'
  · rintro σ' H' ⟨F', e', x, r', q'⟩
    rw [List.drop_length] at q'
    exact q' σ' H' F' (Ext.refl F') r'
theorem sFor_ok {it : IV} {g : GV} {body : SV} (q : tS K T W (sFor it g body) D σ H) : tFor (tI K T W it) (tG K T g) (tS K T W body) D σ H := by
  obtain ⟨G, F, L, e, r, q⟩ := q
  refine ⟨G, F, L, e, r, ?_⟩
  have q : fQ K T W (bnd (it e) fun p => forL g body p.1 p.2) G F L D := q
  cases h : it e with
  | bad => rw [h] at q; exact q
  | ex c d e' => rw [h] at q; exact fun u dx H' F' => q u dx σ H' F'
  | ok p =>
    rw [h] at q
    exact fun J H' F' x r' w => for_ok r' w (fQ.mono q x)
theorem sWhl_ok {n : Nat} {t : TV} {body : SV} (q : tS K T W (sWhl n t body) D σ H) : tWhile (tT K T W t) (tS K T W body) D σ H := by
  refine ⟨fun m σ' H' => tS K T W (whlL t body m) D σ' H', ⟨n, q⟩, fun m σ H q => ?_⟩
  obtain ⟨G, F, L, e, r, q⟩ := q
  cases m with
  | zero => exact False.elim q
  | succ m =>
    refine t_then (k := fun b e => if b then bnd (body e) fun f => match f with
      | .nx e2 => whlL t body m e2
      | .ct e2 => whlL t body m e2
      | .bk e2 => .ok (.nx e2)
      | f => .ok f
      else .ok (.nx e)) r q fun b e' H' F' _ x r' q' => ?_
    cases b with
    | false => exact q' σ H' F' (Ext.refl F') r'
    | true =>
      simp only [if_true] at q'
      refine ⟨fun σ' H' => tS K T W (whlL t body m) D σ' H', fun σ' H' z => ⟨m, Nat.lt_succ_self m, z⟩, G, F', L, e', r', ?_⟩
      cases hb : body e' with
      | bad => rw [hb] at q'; exact q'
      | ex c d' e' => rw [hb] at q'; exact q'
      | ok f =>
        rw [hb] at q'
        cases f with
        | nx e2 => exact fun σ' H' F2 y2 r2 => ⟨G, F2, L, e2, r2, fQ.mono q' y2⟩
        | ct e2 => exact fun σ' H' F2 y2 r2 => ⟨G, F2, L, e2, r2, fQ.mono q' y2⟩
        | bk e2 => exact q'
        | rt d' o e2 => exact q'
end
section
variable {X : Cx} {T : List Addr} {W : WX} {pos : Pos}
theorem ss_for {tg iter : Expr} {body : List Stmt} {it : IV} {g : GV} {b : List SV} (hp : PassesOwn (model X.prog X.w) X.A X.env X.xe) (hc : X.calm = true) (hi : SI X T W tg iter it) (hg : SG X T tg g) (hb : SSs X T W body b)
    (hs : ∀ x, foldedSetIterable iter X.env x = pure x := by intro _; rfl) : SS X T W (.For tg iter body [] pos) (sFor it g (sSeq b)) := PS.mono (ps_for hp hc hi hg hb hs) fun _ _ _ => sFor_ok
theorem ss_whl {c : Expr} {body : List Stmt} {t : TV} {b : List SV} (n : Nat) (hp : PassesOwn (model X.prog X.w) X.A X.env X.xe) (hc : ST X T W c t) (hb : SSs X T W body b) : SS X T W (.While c body [] pos) (sWhl n t (sSeq b)) := PS.mono (ps_while hp hc hb) fun _ _ _ => sWhl_ok
end
/-! ### what is walked -/
def itsOf : PyData → Option (List PyData)
  | .list ds => some ds
  | .tuple ds => some ds
  | .str z => some (z.cps.toList.map fun c => .str ⟨#[c]⟩)
  | _ => none
/-- the items of a value -/
def itV (f : EV) : IV := fun e => bnd (f e) fun p => match itsOf p.1 with
  | some ds => .ok (ds, p.2.2)
  | none => .bad
def rangeL (lo : Int) (n : Nat) : List PyData := (List.range n).map fun i => .int (lo + (i : Nat))
def rangeC (lo c : Int) (n : Nat) : List PyData := (List.range n).map fun i => .int (lo + (i : Nat) * c)
def lim62 (i : Int) : Bool := decide (-(2 ^ 62) ≤ i) && decide (i < 2 ^ 62)
def itR1 (a : Arg) : IV := fun e => bnd (evA [a] e) fun p => match p.1 with
  | [.int j] => if lim62 j then .ok (rangeL 0 j.toNat, p.2) else .bad
  | _ => .bad
def itR2 (a b : Arg) : IV := fun e => bnd (evA [a, b] e) fun p => match p.1 with
  | [.int i, .int j] => if lim62 i && lim62 j then .ok (rangeL i (j - i).toNat, p.2) else .bad
  | _ => .bad
def pairD (x y : PyData) : PyData := .tuple [x, y]
def enumFrom : Nat → List PyData → List PyData
  | _, [] => []
  | i, d :: ds => pairD (.int (i : Nat)) d :: enumFrom (i + 1) ds
def itE (f : EV) : IV := fun e => bnd (f e) fun p => match p.1 with
  | .list ds => .ok (enumFrom 0 ds, p.2.2)
  | .tuple ds => .ok (enumFrom 0 ds, p.2.2)
  | _ => .bad
theorem enum_len : ∀ (ds : List PyData) (k : Nat), (enumFrom k ds).length = ds.length
  | [], _ => rfl
  | _ :: ds, k => by simp [enumFrom, enum_len ds]
theorem enum_get : ∀ (ds : List PyData) (k i : Nat) (d : PyData), (enumFrom k ds)[i]? = some d → ∃ x, ds[i]? = some x ∧ d = pairD (.int ((k + i : Nat) : Int)) x
  | [], _, _, _, h => by simp [enumFrom] at h
  | x :: ds, k, 0, d, h => by simp [enumFrom] at h; exact ⟨x, rfl, by rw [← h]; simp⟩
  | x :: ds, k, i + 1, d, h => by
    obtain ⟨y, h1, h2⟩ := enum_get ds (k + 1) i d (by simpa [enumFrom] using h)
    exact ⟨y, by simpa using h1, by rw [h2]; congr 3; omega⟩
section
variable {K : Fr} {T : List Addr} {W : WX} {G F : Hp}
/-- nothing is made at a turn -/
theorem WkD.plain {J : It} {ds : List PyData} {vs : Nat → V → Prop} {GW : Hp → Prop} (w : Walk J ds.length GW fun i H x H' => H' = H ∧ vs i x) (hg : ∀ H, Ext F H → Ext G H → GW H) (hv : ∀ i x d, ds[i]? = some d → vs i x → Rp K F x d) : WkD K G F J ds :=
  ⟨GW, _, w, hg, fun i H x H' F2 d h1 h2 hd y => by
    obtain ⟨rfl, y⟩ := y
    exact ⟨F2, Ext.refl _, h2, Ext.refl _, fun a o z => .inl ⟨o, z⟩, (hv i x d hd y).ext h1⟩⟩
theorem WkD.list {a : Addr} {xs : List V} {ds : List PyData} (s : SqL K F a xs) (r : RpAll K F xs ds) : WkD K G F (Itl K a) ds := by
  have w := walk_list (K := K) (a := a) (xs := xs)
  rw [r.length] at w
  exact WkD.plain w (fun H h _ => SqL.ext h s) fun i x d hd hx => by
    obtain ⟨d', h1, h2⟩ := r.get hx
    rw [hd] at h1; cases h1
    exact h2
theorem WkD.tup {a : Addr} {xs : List V} {ds : List PyData} (s : F a = some (.tup xs)) (r : RpAll K F xs ds) : WkD K G F (Itt K a) ds := by
  have w := walk_tup (K := K) (a := a) (xs := xs)
  rw [r.length] at w
  exact WkD.plain w (fun H h _ => SqT.of (h _ _ s)) fun i x d hd hx => by
    obtain ⟨d', h1, h2⟩ := r.get hx
    rw [hd] at h1; cases h1
    exact h2
theorem WkD.str {z : Str} : WkD K G F (Its z) (z.cps.toList.map fun c => .str ⟨#[c]⟩) := by
  have w := walk_str (z := z)
  have e : (z.cps.toList.map fun c => PyData.str ⟨#[c]⟩).length = z.cps.size := by simp
  rw [← e] at w
  exact WkD.plain w (fun _ _ _ => trivial) fun i x d hd hx => by
    obtain ⟨c, h1, rfl⟩ := hx
    rw [List.getElem?_map, Array.getElem?_toList, h1] at hd
    cases hd
    exact .str _
theorem WkD.rangeL {lo : Int} {n : Nat} : WkD K G F (Itr lo n) (rangeL lo n) := by
  have w := walk_range (lo := lo) (n := n)
  have e : (Py.rangeL lo n).length = n := by simp [Py.rangeL]
  rw [← e] at w
  refine WkD.plain (J := Itr lo n) (ds := Py.rangeL lo n) (GW := fun _ => True) (vs := fun i x => x = .int (lo + (i : Nat))) (by rw [e] at w ⊢; exact w) (fun _ _ _ => trivial) fun i x d hd hx => by
    subst hx
    unfold Py.rangeL at hd
    rw [List.getElem?_map] at hd
    by_cases hi : i < n
    · rw [List.getElem?_range hi] at hd
      cases hd
      exact .int _
    · rw [List.getElem?_eq_none (by simpa using hi)] at hd
      cases hd
/-- a new pair at each turn -/
theorem WkD.pair {J : It} {ds : List PyData} {GW : Hp → Prop} {f g : Nat → Option V} (w : Walk J ds.length GW (YPair f g)) (hg : ∀ H, Ext F H → Ext G H → GW H)
    (hv : ∀ i x y d, ds[i]? = some d → f i = some x → g i = some y → ∃ a b, d = pairD a b ∧ Rp K F x a ∧ Rp K F y b) : WkD K G F J ds :=
  ⟨GW, _, w, hg, fun i H v H' F2 d h1 h2 hd y => by
    obtain ⟨t, x, z, rfl, hn, rfl, hx, hz⟩ := y
    obtain ⟨a, b, rfl, ra, rb⟩ := hv i x z d hd hx hz
    have hF : F2 t = none := h2.none hn
    have ex : Ext F2 (upd F2 t (.tup [x, z])) := Ext.upd hF
    refine ⟨upd F2 t (.tup [x, z]), ex, fun c o q => ?_, Ext.upd hn, fun c o q => ?_, .tup upd_same (.cons (ra.ext (h1.trans ex)) (.cons (rb.ext (h1.trans ex)) .nil))⟩
    · by_cases hc : c = t
      · subst hc; rw [upd_same] at q ⊢; exact q
      · rw [upd_ne hc] at q ⊢; exact h2 c o q
    · by_cases hc : c = t
      · subst hc; exact .inr hn
      · rw [upd_ne hc] at q; exact .inl ⟨o, q⟩⟩
theorem WkD.enumL {a : Addr} {xs : List V} {ds : List PyData} (s : SqL K F a xs) (r : RpAll K F xs ds) : WkD K G F (Ite K a) (enumFrom 0 ds) := by
  have w := walk_enum (K := K) (a := a) (xs := xs)
  have e : xs.length = (enumFrom 0 ds).length := by rw [enum_len, r.length]
  rw [e] at w
  refine WkD.pair w (fun H h _ => SqL.ext h s) fun i x y d hd hx hy => ?_
  obtain ⟨z, h1, h2⟩ := enum_get ds 0 i d hd
  obtain ⟨z', h3, h4⟩ := r.get hy
  rw [h1] at h3; cases h3
  cases hx
  exact ⟨_, _, h2, by rw [Nat.zero_add]; exact .int _, h4⟩
theorem itV_ok {f : EV} {σ : L2.St} {H : Hp} {Q : It → Hp → Prop} (q : tI K T W (itV f) σ H Q) : tE K T W f σ H fun x H1 => (∃ a xs, x = .ref a ∧ SqL K H1 a xs ∧ Q (Itl K a) H1) ∨ (∃ a xs, x = .ref a ∧ SqT K H1 a xs ∧ Q (Itt K a) H1) ∨ ∃ z, x = .str z ∧ Q (Its z) H1 := by
  obtain ⟨G, F, L, e, r, q⟩ := q
  refine ⟨G, F, L, e, r, ?_⟩
  have q : iQ K T W σ (bnd (f e) fun p => match itsOf p.1 with
    | some ds => .ok (ds, p.2.2)
    | none => .bad) G F L Q := q
  cases h : f e with
  | bad => rw [h] at q; exact q
  | ex c d e' => rw [h] at q; exact q
  | ok p =>
    obtain ⟨d, o, e'⟩ := p
    rw [h] at q
    simp only [bnd_ok] at q
    intro v H' F' x r' n
    obtain ⟨F2, x2, r2, rp⟩ := r'.still n
    cases rp with
    | lst s ra => exact .inl ⟨_, _, rfl, SqL.ext r2.fH s, q _ H' F2 (x.trans x2) r2 (WkD.list s ra)⟩
    | tup s ra => exact .inr (.inl ⟨_, _, rfl, SqT.of (r2.fH _ _ s), q _ H' F2 (x.trans x2) r2 (WkD.tup s ra)⟩)
    | str z => exact .inr (.inr ⟨z, rfl, q _ H' F2 (x.trans x2) r2 WkD.str⟩)
    | non => exact False.elim q
    | bl b => exact False.elim q
    | int i => exact False.elim q
    | dK _ _ _ => exact False.elim q
    | dT _ _ _ => exact False.elim q
theorem lim_of {i : Int} (h : lim62 i = true) : -(2 ^ 62) ≤ i ∧ i < 2 ^ 62 := by
  unfold lim62 at h
  rw [Bool.and_eq_true] at h
  exact ⟨of_decide_eq_true h.1, of_decide_eq_true h.2⟩
theorem itR1_ok {a : Arg} {σ : L2.St} {H : Hp} {Q : It → Hp → Prop} (q : tI K T W (itR1 a) σ H Q) : tAs ([a].map (tAg K T W)) σ H fun vs H1 => ∃ j : Int, vs = [.int j] ∧ -(2 ^ 62) ≤ j ∧ j < 2 ^ 62 ∧ Q (Itr 0 j.toNat) H1 := by
  obtain ⟨G, F, L, e, r, q⟩ := q
  refine args_ok [a] r ?_
  have q : iQ K T W σ (bnd (evA [a] e) fun p => match p.1 with
    | [.int j] => if lim62 j then .ok (Py.rangeL 0 j.toNat, p.2) else .bad
    | _ => .bad) G F L Q := q
  cases h : evA [a] e with
  | bad => rw [h] at q; exact q
  | ex c d e' => rw [h] at q; exact q
  | ok p =>
    obtain ⟨ds, e'⟩ := p
    rw [h] at q
    simp only [bnd_ok] at q
    intro vs H' F' x r' n
    split at q
    · rename_i j
      split at q
      · rename_i hj
        match vs, n with
        | [v], n =>
          have rp := n.1.rp r'.fH
          cases rp
          exact ⟨j, rfl, (lim_of hj).1, (lim_of hj).2, q _ H' F' x r' WkD.rangeL⟩
      · exact False.elim q
    · exact False.elim q
theorem itR2_ok {a b : Arg} {σ : L2.St} {H : Hp} {Q : It → Hp → Prop} (q : tI K T W (itR2 a b) σ H Q) : tAs ([a, b].map (tAg K T W)) σ H fun vs H1 => ∃ i j : Int, vs = [.int i, .int j] ∧ (-(2 ^ 62) ≤ i ∧ i < 2 ^ 62 ∧ -(2 ^ 62) ≤ j ∧ j < 2 ^ 62) ∧ Q (Itr i (j - i).toNat) H1 := by
  obtain ⟨G, F, L, e, r, q⟩ := q
  refine args_ok [a, b] r ?_
  have q : iQ K T W σ (bnd (evA [a, b] e) fun p => match p.1 with
    | [.int i, .int j] => if lim62 i && lim62 j then .ok (Py.rangeL i (j - i).toNat, p.2) else .bad
    | _ => .bad) G F L Q := q
  cases h : evA [a, b] e with
  | bad => rw [h] at q; exact q
  | ex c d e' => rw [h] at q; exact q
  | ok p =>
    obtain ⟨ds, e'⟩ := p
    rw [h] at q
    simp only [bnd_ok] at q
    intro vs H' F' x r' n
    split at q
    · rename_i i j
      split at q
      · rename_i hj
        rw [Bool.and_eq_true] at hj
        match vs, n with
        | [v, w], n =>
          have r1 := n.1.rp r'.fH
          have r2 := n.2.1.rp r'.fH
          cases r1
          cases r2
          exact ⟨i, j, rfl, ⟨(lim_of hj.1).1, (lim_of hj.1).2, (lim_of hj.2).1, (lim_of hj.2).2⟩, q _ H' F' x r' WkD.rangeL⟩
      · exact False.elim q
    · exact False.elim q
end
section
variable {X : Cx} {T : List Addr} {W : WX} {pos : Pos} {tg : Expr}
/-- a list, a tuple, a text -/
theorem pi_any {l : Expr} {tl : TE} (hl : PE X l tl) : PI X tg l fun σ H R => tl σ H fun x H1 => (∃ a xs, x = .ref a ∧ SqL X.K H1 a xs ∧ R (Itl X.K a) H1) ∨ (∃ a xs, x = .ref a ∧ SqT X.K H1 a xs ∧ R (Itt X.K a) H1) ∨ ∃ z, x = .str z ∧ R (Its z) H1 := by
  refine ⟨fun pins s σ H R I h => ?_⟩
  refine thn (hl.run pins s σ H _ I h) fun v s1 ⟨x, H1, I1, r1, q1⟩ => ?_
  rcases q1 with ⟨a, xs, e, hq, q⟩ | ⟨a, xs, e, hq, q⟩ | ⟨z, e, q⟩
  · subst e
    cases r1
    obtain ⟨its, rv, p, hz⟩ := I1.list hq
    refine wpAny_pyIter_list p.isList ?_
    refine ⟨s1.heap.objs.size, [s1.heap.objs.size], _, _, H1, rfl, I1.kept (t' := s1.toks) fun b o e => Heap.get?_push_of_some _ e, turn_list a _, ⟨_, Heap.get?_push_size _ rfl, rfl, rfl⟩, fun b hb => ?_, q⟩
    have e : b = s1.heap.objs.size := by simpa using hb
    subst e
    exact I1.fpOk (Nat.le_refl _) (I1.hok.fresh (Nat.le_refl _))
  · subst e
    cases r1
    obtain ⟨its, rv, p, hz⟩ := I1.tuple hq
    refine wpAny_pyIter_tuple (show s1.heap.IsTuple a its.toArray from p) ?_
    refine ⟨s1.heap.objs.size, [s1.heap.objs.size], _, _, H1, rfl, I1.kept (t' := s1.toks) fun b o e => Heap.get?_push_of_some _ e, turn_tuple a _, ⟨_, Heap.get?_push_size _ rfl, rfl, rfl⟩, fun b hb => ?_, q⟩
    have e : b = s1.heap.objs.size := by simpa using hb
    subst e
    exact I1.fpOk (Nat.le_refl _) (I1.hok.fresh (Nat.le_refl _))
  · subst e
    obtain ⟨t, rfl⟩ := r1
    cases ha : z.cps.all (· < 128)
    · exact wpAny_pyIter_wide ha (pi_one (tk := s1.toks) I1 _ (turn_str _ z t "str_iterator" (.inr rfl)) ⟨_, Heap.get?_push_size _ rfl, rfl, rfl⟩ q)
    · exact wpAny_pyIter_ascii ha (pi_one (tk := s1.toks) I1 _ (turn_str _ z t "str_ascii_iterator" (.inl rfl)) ⟨_, Heap.get?_push_size _ rfl, rfl, rfl⟩ q)
theorem si_v {l : Expr} {f : EV} (h : SE X T W l f) : SI X T W tg l (itV f) := PI.mono (pi_any h) fun _ _ _ => itV_ok
theorem si_r1 {a : Expr} {ar : Arg} {p : Pos} (hg : Gl X "range") (hm : X.mg "range" = none) (ha : SA X T W a ar) (hs : starEach [a] X.env = [(false, eval a X.env)] := by rfl) : SI X T W tg (.Call (.Name "range" p) [a] [] pos) (itR1 ar) :=
  PI.mono (pi_range1 hg hm (pa_cons ha pa_nil (by rw [hs]; rfl)) hs) fun _ _ _ => itR1_ok
theorem si_r2 {a b : Expr} {ar br : Arg} {p : Pos} (hg : Gl X "range") (hm : X.mg "range" = none) (ha : SA X T W a ar) (hb : SA X T W b br) (hs : starEach [a, b] X.env = [(false, eval a X.env), (false, eval b X.env)] := by rfl) (hs2 : starEach [b] X.env = [(false, eval b X.env)] := by rfl) (hs3 : starEach [a, b] X.env = (false, eval a X.env) :: starEach [b] X.env := by rfl) : SI X T W tg (.Call (.Name "range" p) [a, b] [] pos) (itR2 ar br) :=
  PI.mono (pi_range2 hg hm (pa_cons ha (pa_cons hb pa_nil (by rw [hs2]; rfl)) hs3) hs hs2) fun _ _ _ => itR2_ok
end
end Py
end
section
set_option Elab.async false
set_option linter.all false
set_option maxRecDepth 100000
/-! enumerate of lists and tuples; zip; comprehensions. -/
namespace Py
open PySem PySem.Spec PyProof.Rows L2

set_option maxHeartbeats 1000000 in
theorem meets_enumerate_1 {v : Value} {o : Obj} {H : Heap → Prop} (B : Begins v o H) :
    Meets (Builtin.«enumerate.__new__» ⟨[.type "enumerate", v], []⟩) (fun _ R s => H s.heap ∧
      R (.ok (.ret (.ref (s.heap.push o).objs.size))) { s with heap := (s.heap.push o).push { cls := .type "enumerate", data := .fields #[.none, .bool false, .ref s.heap.objs.size, rawInt 0, .none, .none] } }) :=
  .of_wp fun prog w A R s h => by
    obtain ⟨hp, g, d, tk, os⟩ := s; obtain ⟨h1, h⟩ := h
    have hsub := sub_enumerate
    have q1 : ∀ {A' : Around} {E : Value → Shared → Prop} {Q : Value → Shared → Prop}, Q (.ref hp.objs.size) ⟨hp.push o, g, d, tk, os⟩ → wpAny (model prog w) A' (pyIter v) Q E ⟨hp, g, d, tk, os⟩ :=
      fun q => B.iter prog w _ _ ⟨hp, g, d, tk, os⟩ _ h1 q
    wp_walk using q1
    refine wpAny_stack_any fun st => wpAny_pure ?_
    split
    · rename_i c _ _ _ _ _
      cases (c == Value.type "enumerate")
      · wp_walk using q1
        exact ⟨_, rfl, h⟩
      · wp_walk using q1
        exact ⟨_, rfl, h⟩
    · wp_walk using q1
      exact ⟨_, rfl, h⟩
section
variable {prog : Program} {w : World} {A : Around} {E : Value → Shared → Prop} {s : Shared}
theorem enum_begins1 {v : Value} {o : Obj} {H : Heap → Prop} {Q : Value → Shared → Prop} (B : Begins v o H) (h1 : H s.heap)
    (h : ∀ h', IsEnum h' (s.heap.objs.size + 1) s.heap.objs.size 0 .none → h'.get? s.heap.objs.size = some o → h'.objs.size = s.heap.objs.size + 2 →
      (∀ b o, s.heap.get? b = some o → h'.get? b = some o) → Q (.ref (s.heap.objs.size + 1)) { s with heap := h' }) :
    wpAny (model prog w) A (call (.type "enumerate") [v]) Q E s := by
  refine callType_new F.called_enumerate (by decide) (F.typeCall_enumerate_1 _) (F.newCall_enumerate_1 _) (fun obj => F.args_object_init_2 obj _) F.entry_enumerate_new
    (meets_enumerate_1 B) ⟨h1, ?_⟩
  have hz : (s.heap.push o).objs.size = s.heap.objs.size + 1 := Heap.size_push ..
  show _ ∧ _
  rw [hz]
  have he : IsEnum ((s.heap.push o).push { cls := .type "enumerate", data := .fields #[.none, .bool false, .ref s.heap.objs.size, rawInt 0, .none, .none] }) (s.heap.objs.size + 1) s.heap.objs.size 0 .none := by
    have := Heap.get?_push_size (s.heap.push o) (o := { cls := .type "enumerate", data := .fields #[.none, .bool false, .ref s.heap.objs.size, rawInt 0, .none, .none] }) rfl
    rw [hz] at this; exact this
  refine ⟨⟨_, he, rfl⟩, h _ he (Heap.get?_push_of_some _ (Heap.get?_push_size _ B.free)) (by rw [Heap.size_push, hz]) fun b o x => Heap.get?_push_of_some _ (Heap.get?_push_of_some _ x)⟩
end
/-- the tuple at a, each item in a new pair -/
def IteT (K : PySem.W.Frag) (a : Addr) : It :=
  ⟨fun i H => ∃ (xs : List V) (x : V), SqT K H a xs ∧ xs[i]? = some x, fun i H v H' => ∃ T x, v = .ref T ∧ H T = none ∧ H' = upd H T (.tup [.int (i : Nat), x]) ∧ ∀ xs, SqT K H a xs → xs[i]? = some x, fun i H => ∃ xs : List V, SqT K H a xs ∧ xs.length ≤ i⟩
theorem turn_enumT {P : Program} {w : World} {K : PySem.W.Frag} {elts : List Expr} {kk : Nat} {tpos : Pos} (a e it : Addr) :
    Turn P w K (.Tuple elts kk tpos) (IteT K a) [e, it] e (fun i h => (∃ old, IsEnum h e it ((i : Nat) : Int) old) ∧ h.IsTupleIter it a i ∧ e ≠ it) where
  mem := by simp
  obj := fun i h st b hb => by
    obtain ⟨⟨old, he⟩, ⟨o, ho, hc, hd⟩, _⟩ := st
    have e' : b = e ∨ b = it := by simpa using hb
    rcases e' with z | z
    · rw [z]; exact ⟨_, he, fun v q => nomatch q⟩
    · rw [z]; exact ⟨o, ho, fun v q => by rw [hd] at q; cases q⟩
  keep := fun i h h' st k => let ⟨⟨old, he⟩, hi, hne⟩ := st; ⟨⟨old, k e (by simp) _ he⟩, hi.at fun o q => k it (by simp) o q, hne⟩
  item := by
    intro X hP hw hK hc i pins s σ H E I hf st hg
    subst hP hw hK
    obtain ⟨⟨old, he⟩, hit, hne⟩ := st
    obtain ⟨xs, x, hq, hx⟩ := hg
    obtain ⟨its, rv, p, hz⟩ := I.tuple hq
    obtain ⟨u, hu, ru⟩ := rv.get hx
    have hel : e < s.heap.objs.size := Heap.lt_size he
    have hil : it < s.heap.objs.size := by obtain ⟨_, q, _⟩ := hit; exact Heap.lt_size q
    obtain ⟨oi, hoi, hci, hdi⟩ := id hit
    obtain ⟨ot, hot, hct, nt, hdt⟩ := id p
    have hat : a ≠ it := fun z => by rw [z] at hot; rw [hoi] at hot; cases hot; rw [hdi] at hdt; cases hdt
    have hea : e ≠ a := fun z => by
      have he' := he
      unfold IsEnum at he'
      rw [z, hot] at he'
      cases he'
      cases hdt
    have hlt : i < its.toArray.size := by
      have hl := rv.length
      have h2 := (List.getElem?_eq_some_iff.mp hx).1
      simp only [List.size_toArray]; omega
    have D := Draws.tuple (prog := X.prog) (w := X.w) (A := X.A.in1) (by show X.A.handled = none; exact I.ok.hd hc) it a hat its.toArray
    refine wpAny_pyNext_enum_itemC D he ⟨hit, p⟩ hlt hne (by simp [hne, hea]) fun x' h' tk hP ho hit' hT hsz hk => ?_
    have hxu : x' = u := by
      have h1 : its[i]? = some x' := by simpa using hP
      rw [hu] at h1; cases h1; rfl
    subst hxu
    refine ⟨_, rfl, wpAny_letOwnedTupleGo_enum (s := { s with heap := h', toks := tk + 1 }) ho fun h'' he' sb => ?_⟩
    have hT2 : h''.get? s.heap.objs.size = some { cls := .type "tuple", data := .seq #[.int i tk, x'] } := (sb.2 _ (Nat.ne_of_gt hel)).trans hT
    have new : ObjOk X.prog X.w (upd H s.heap.objs.size (.tup [.int (i : Nat), x])) h'' s.heap.objs.size (.tup [.int (i : Nat), x]) :=
      ⟨by show 2 ≤ sizeLine; decide, [.int i tk, x'], .cons ⟨_, rfl⟩ (.cons ru .nil), ⟨_, hT2, rfl, _, rfl⟩⟩
    have I1 : Inv X pins σ (upd H s.heap.objs.size (.tup [.int (i : Nat), x])) { s with heap := h'', toks := tk + 1 } :=
      I.turnedNew (ch := [e, it]) (fun b ob hb q => (sb.2 b (fun z => hb (by simp [z]))).trans (hk b ob (fun z => hb (by simp [z])) (fun z => hb (by simp [z])) q)) hf (Nat.le_refl _) new
    refine ⟨.ref s.heap.objs.size, _, I1, rfl, ⟨_, x, rfl, I.hok.fresh (Nat.le_refl _), rfl, fun ys hy => by rw [I.tuple_inj hy hq]; exact hx⟩, ⟨⟨x', ?_⟩, hit'.1.at fun o q => (sb.2 it (Ne.symm hne)).trans q, hne⟩, fun b hb => ?_⟩
    · have e1 : ((i + 1 : Nat) : Int) = (i : Int) + 1 := by omega
      rw [e1]; exact he'
    · have hb' : b < s.heap.objs.size := by
        have e' : b = e ∨ b = it := by simpa using hb
        rcases e' with z | z
        · rw [z]; exact hel
        · rw [z]; exact hil
      rw [upd_ne (Nat.ne_of_lt hb')]
      exact (hf b hb).1
  done := by
    intro X hP hw hK hc i pins s σ H E I hf st hg
    subst hP hw hK
    obtain ⟨⟨old, he⟩, hit, hne⟩ := st
    obtain ⟨xs, hq, hx⟩ := hg
    obtain ⟨its, rv, p, hz⟩ := I.tuple hq
    obtain ⟨f0, f1, f2, f3, f4, f5⟩ := hf it (by simp)
    have hl := rv.length
    obtain ⟨oi, hoi, hci, hdi⟩ := id hit
    obtain ⟨ot, hot, hct, nt, hdt⟩ := id p
    have hat : a ≠ it := fun z => by rw [z] at hot; rw [hoi] at hot; cases hot; rw [hdi] at hdt; cases hdt
    -- the iterator beyond its end draws nothing
    have D : Draws X.prog X.w X.A.in1 it [it, a] i (fun _ _ => False) (fun j h => j = i ∧ h.IsTupleIter it a i ∧ h.IsTuple a its.toArray) :=
      { live := fun _ _ st => let ⟨o, ho, _⟩ := st.2.1; ⟨o, ho⟩
        frame := fun _ _ _ st hk => ⟨st.1, st.2.1.at fun o e => hk it (by simp) o e, st.2.2.at fun o e => hk a (by simp) o e⟩
        item := fun j s Q E hj st hQ => absurd st.1 (Nat.ne_of_lt hj)
        done := fun s Q E st hE => wpAny_nextOf_tuple_end (I.ok.hd hc) st.2.1 st.2.2 (by simp; omega) hE }
    exact wpAny_pyNext_enum_endD D he ⟨rfl, hit, p⟩ fun h' eb => ⟨rfl, I.turned (t' := s.toks) (fun b o hb q => eb b o hb q) f0 f1 f3 f4 f5⟩
  self := fun A i s Q E st h => let ⟨⟨_, he⟩, _⟩ := st; wpAny_pyIter_enum he h
theorem walk_enumT {K : Fr} {a : Addr} {xs : List V} : Walk (IteT K a) xs.length (fun H => SqT K H a xs) (YPair (fun i => some (.int (i : Nat))) (fun i => xs[i]?)) := by
  refine ⟨fun i _ hi q => ⟨xs, xs[i], q, by simp [hi]⟩, fun _ q => ⟨xs, q, Nat.le_refl _⟩, fun i H v H' _ q y => ?_⟩
  obtain ⟨T, x, h1, h2, h3, h4⟩ := y
  exact ⟨T, .int (i : Nat), x, h1, h2, h3, rfl, h4 xs q⟩
theorem walk_zipT {K : Fr} {a b : Addr} {xs ys : List V} {n : Nat} (hn : n = min xs.length ys.length) : Walk (RZ.ItzT K a b) n (fun H => SqT K H a xs ∧ SqT K H b ys) (YPair (fun i => xs[i]?) (fun i => ys[i]?)) := by
  subst hn
  refine ⟨fun i _ hi q => ?_, fun _ q => ⟨xs, ys, q.1, q.2, by omega⟩, fun i H v H' _ q y => ?_⟩
  · have h1 : i < xs.length := by omega
    have h2 : i < ys.length := by omega
    exact ⟨xs, ys, xs[i], ys[i], q.1, q.2, by simp [h1], by simp [h2]⟩
  · obtain ⟨T, x, z, h1, h2, h3, h4, h5⟩ := y
    exact ⟨T, x, z, h1, h2, h3, h4 xs q.1, h5 ys q.2⟩
def zipD : List PyData → List PyData → List PyData
  | x :: xs, y :: ys => pairD x y :: zipD xs ys
  | _, _ => []
def itZ (f g : EV) : IV := fun e => bnd (evV [f, g] e) fun p => match p.1 with
  | [.list xs, .list ys] => .ok (zipD xs ys, p.2)
  | [.tuple xs, .tuple ys] => .ok (zipD xs ys, p.2)
  | _ => .bad
theorem zip_len : ∀ (xs ys : List PyData), (zipD xs ys).length = min xs.length ys.length
  | [], _ => by simp [zipD]
  | _ :: _, [] => by simp [zipD]
  | _ :: xs, _ :: ys => by simp [zipD, zip_len xs ys]
theorem zip_get : ∀ (xs ys : List PyData) (i : Nat) (d : PyData), (zipD xs ys)[i]? = some d → ∃ x y, xs[i]? = some x ∧ ys[i]? = some y ∧ d = pairD x y
  | [], _, _, _, h => by simp [zipD] at h
  | _ :: _, [], _, _, h => by simp [zipD] at h
  | x :: xs, y :: ys, 0, d, h => by simp [zipD] at h; exact ⟨x, y, rfl, rfl, h.symm⟩
  | x :: xs, y :: ys, i + 1, d, h => by
    obtain ⟨a, b, h1, h2, h3⟩ := zip_get xs ys i d (by simpa [zipD] using h)
    exact ⟨a, b, by simpa using h1, by simpa using h2, h3⟩
section
variable {K : Fr} {T : List Addr} {W : WX} {G F : Hp}
theorem WkD.enumT {a : Addr} {xs : List V} {ds : List PyData} (s : F a = some (.tup xs)) (r : RpAll K F xs ds) : WkD K G F (IteT K a) (enumFrom 0 ds) := by
  have w := walk_enumT (K := K) (a := a) (xs := xs)
  have e : xs.length = (enumFrom 0 ds).length := by rw [enum_len, r.length]
  rw [e] at w
  refine WkD.pair w (fun H h _ => SqT.of (h _ _ s)) fun i x y d hd hx hy => ?_
  obtain ⟨z, h1, h2⟩ := enum_get ds 0 i d hd
  obtain ⟨z', h3, h4⟩ := r.get hy
  rw [h1] at h3; cases h3
  cases hx
  exact ⟨_, _, h2, by rw [Nat.zero_add]; exact .int _, h4⟩
theorem WkD.zipL {a b : Addr} {xs ys : List V} {ds es : List PyData} (s : SqL K F a xs) (r : RpAll K F xs ds) (s' : SqL K F b ys) (r' : RpAll K F ys es) : WkD K G F (Itz K a b) (zipD ds es) := by
  have w := walk_zip (K := K) (a := a) (b := b) (xs := xs) (ys := ys) (n := (zipD ds es).length) (by rw [zip_len, r.length, r'.length])
  refine WkD.pair w (fun H h _ => ⟨SqL.ext h s, SqL.ext h s'⟩) fun i x y d hd hx hy => ?_
  obtain ⟨p, q, h1, h2, h3⟩ := zip_get ds es i d hd
  obtain ⟨p', h4, h5⟩ := r.get hx
  obtain ⟨q', h6, h7⟩ := r'.get hy
  rw [h1] at h4; cases h4
  rw [h2] at h6; cases h6
  exact ⟨_, _, h3, h5, h7⟩
theorem WkD.zipT {a b : Addr} {xs ys : List V} {ds es : List PyData} (s : F a = some (.tup xs)) (r : RpAll K F xs ds) (s' : F b = some (.tup ys)) (r' : RpAll K F ys es) : WkD K G F (RZ.ItzT K a b) (zipD ds es) := by
  have w := walk_zipT (K := K) (a := a) (b := b) (xs := xs) (ys := ys) (n := (zipD ds es).length) (by rw [zip_len, r.length, r'.length])
  refine WkD.pair w (fun H h _ => ⟨SqT.of (h _ _ s), SqT.of (h _ _ s')⟩) fun i x y d hd hx hy => ?_
  obtain ⟨p, q, h1, h2, h3⟩ := zip_get ds es i d hd
  obtain ⟨p', h4, h5⟩ := r.get hx
  obtain ⟨q', h6, h7⟩ := r'.get hy
  rw [h1] at h4; cases h4
  rw [h2] at h6; cases h6
  exact ⟨_, _, h3, h5, h7⟩
theorem itE_ok {f : EV} {σ : L2.St} {H : Hp} {Q : It → Hp → Prop} (q : tI K T W (itE f) σ H Q) : tAs ([f].map (tE K T W)) σ H fun vs H1 => ∃ a xs, vs = [.ref a] ∧ ((SqL K H1 a xs ∧ Q (Ite K a) H1) ∨ (SqT K H1 a xs ∧ Q (IteT K a) H1)) := by
  obtain ⟨G, F, L, e, r, q⟩ := q
  refine ⟨G, F, L, e, r, ?_⟩
  have q : iQ K T W σ (bnd (f e) fun p => match p.1 with
    | .list ds => .ok (enumFrom 0 ds, p.2.2)
    | .tuple ds => .ok (enumFrom 0 ds, p.2.2)
    | _ => .bad) G F L Q := q
  cases h : f e with
  | bad => rw [h] at q; exact q
  | ex c d e' => rw [h] at q; exact q
  | ok p =>
    obtain ⟨d, o, e'⟩ := p
    rw [h] at q
    simp only [bnd_ok] at q
    intro v H' F' x r' n
    obtain ⟨F2, x2, r2, rp⟩ := r'.still n
    show ∃ a xs, [v] = [.ref a] ∧ _
    cases rp with
    | lst s ra => exact ⟨_, _, rfl, .inl ⟨SqL.ext r2.fH s, q _ H' F2 (x.trans x2) r2 (WkD.enumL s ra)⟩⟩
    | tup s ra => exact ⟨_, _, rfl, .inr ⟨SqT.of (r2.fH _ _ s), q _ H' F2 (x.trans x2) r2 (WkD.enumT s ra)⟩⟩
    | non => exact False.elim q
    | bl b => exact False.elim q
    | int i => exact False.elim q
    | str _ => exact False.elim q
    | dK _ _ _ => exact False.elim q
    | dT _ _ _ => exact False.elim q
theorem itZ_ok {f g : EV} {σ : L2.St} {H : Hp} {Q : It → Hp → Prop} (q : tI K T W (itZ f g) σ H Q) : RZ.iZipA K (tAs ([f, g].map (tE K T W))) σ H Q := by
  obtain ⟨G, F, L, e, r, q⟩ := q
  refine evV_evO [f, g] r ?_
  have q : iQ K T W σ (bnd (evV [f, g] e) fun p => match p.1 with
    | [.list xs, .list ys] => .ok (zipD xs ys, p.2)
    | [.tuple xs, .tuple ys] => .ok (zipD xs ys, p.2)
    | _ => .bad) G F L Q := q
  cases h : evV [f, g] e with
  | bad => rw [h] at q; exact q
  | ex c d e' => rw [h] at q; exact q
  | ok p =>
    obtain ⟨ds, e'⟩ := p
    rw [h] at q
    simp only [bnd_ok] at q
    intro vs H' F' x r' n
    split at q
    · cases n with
      | cons a n => cases n with
        | cons b n =>
          cases n
          cases a with
          | lst s ra => cases b with
            | lst s' rb => exact ⟨_, _, _, _, rfl, .inl ⟨SqL.ext r'.fH s, SqL.ext r'.fH s', q _ H' F' x r' (WkD.zipL s ra s' rb)⟩⟩
    · cases n with
      | cons a n => cases n with
        | cons b n =>
          cases n
          cases a with
          | tup s ra => cases b with
            | tup s' rb => exact ⟨_, _, _, _, rfl, .inr ⟨SqT.of (r'.fH _ _ s), SqT.of (r'.fH _ _ s'), q _ H' F' x r' (WkD.zipT s ra s' rb)⟩⟩
    · exact False.elim q
end
section
variable {X : Cx} {T : List Addr} {W : WX} {pos : Pos} {tg : Expr}
theorem pi_enumA {e : Expr} {ta : TA} {p tpos : Pos} {elts : List Expr} {kk : Nat} (hg : Gl X "enumerate") (hm : X.mg "enumerate" = none) (ha : PA X [e] ta) (hs : starEach [e] X.env = [(false, eval e X.env)] := by rfl) :
    PI X (.Tuple elts kk tpos) (.Call (.Name "enumerate" p) [e] [] pos) (fun σ H R => ta σ H fun vs H1 => ∃ a xs, vs = [.ref a] ∧ ((SqL X.K H1 a xs ∧ R (Ite X.K a) H1) ∨ (SqT X.K H1 a xs ∧ R (IteT X.K a) H1))) := by
  refine ⟨fun pins s σ H R I h => ?_⟩
  refine Call_ (ld_blt I hg hm boot_enumerate (PyProof.Rows.callWith_type1 (thn (ha.run pos pins s σ H _ I h) fun us s1 ⟨vs, H1, I1, r1, q1⟩ => ?_) hs rfl))
  obtain ⟨a, xs, ex, q⟩ := q1
  subst ex
  cases r1 with
  | cons r rr =>
    cases rr
    cases r
    have fresh : ∀ b ∈ [s1.heap.objs.size + 1, s1.heap.objs.size], FpOk X pins H1 b := fun b hb => by
      have e' : b = s1.heap.objs.size + 1 ∨ b = s1.heap.objs.size := by simpa using hb
      have hle : s1.heap.objs.size ≤ b := by
        rcases e' with z | z
        · rw [z]; exact Nat.le_add_right _ _
        · rw [z]; exact Nat.le_refl _
      exact I1.fpOk hle (I1.hok.fresh hle)
    rcases q with ⟨hq, q⟩ | ⟨hq, q⟩
    · obtain ⟨its, rv, p', hz⟩ := I1.list hq
      refine call_enumerate_list p'.isList fun h' he hit hsz hk => wpAny_pyIter_enum he ?_
      have I2 : Inv X pins σ H1 { s1 with heap := h' } := I1.kept (t' := s1.toks) hk
      exact ⟨s1.heap.objs.size + 1, [s1.heap.objs.size + 1, s1.heap.objs.size], _, _, H1, rfl, I2, turn_enum a (s1.heap.objs.size + 1) s1.heap.objs.size, ⟨⟨.none, he⟩, hit, Nat.succ_ne_self _⟩, fresh, q⟩
    · obtain ⟨its, rv, p', hz⟩ := I1.tuple hq
      refine enum_begins1 (begins_tuple a its.toArray) (show s1.heap.IsTuple a its.toArray from p') fun h' he hit hsz hk => wpAny_pyIter_enum he ?_
      have I2 : Inv X pins σ H1 { s1 with heap := h' } := I1.kept (t' := s1.toks) hk
      exact ⟨s1.heap.objs.size + 1, [s1.heap.objs.size + 1, s1.heap.objs.size], _, _, H1, rfl, I2, turn_enumT a (s1.heap.objs.size + 1) s1.heap.objs.size, ⟨⟨.none, he⟩, ⟨_, hit, rfl, rfl⟩, Nat.succ_ne_self _⟩, fresh, q⟩
theorem si_e {e : Expr} {f : EV} {p tpos : Pos} {elts : List Expr} {kk : Nat} (hg : Gl X "enumerate") (hm : X.mg "enumerate" = none) (h : SE X T W e f) (hs : starEach [e] X.env = [(false, eval e X.env)] := by rfl) : SI X T W (.Tuple elts kk tpos) (.Call (.Name "enumerate" p) [e] [] pos) (itE f) :=
  PI.mono (pi_enumA hg hm (ta := tAs ([f].map (tE X.K T W))) (pa_cons h pa_nil (by rw [hs]; rfl)) hs) fun _ _ _ => itE_ok
theorem si_z {e e2 : Expr} {f g : EV} {p tpos : Pos} {elts : List Expr} {kk : Nat} (hg : Gl X "zip") (hm : X.mg "zip" = none) (h : SVs X T W [e, e2] [f, g])
    (hs : starEach [e, e2] X.env = (false, eval e X.env) :: starEach [e2] X.env := by rfl) (hpl : (backTo pos (starEach [e2] X.env)).any (·.1) = false := by rfl) : SI X T W (.Tuple elts kk tpos) (.Call (.Name "zip" p) [e, e2] [] pos) (itZ f g) :=
  PI.mono (RZ.pi_zipA hg hm h hs hpl) fun _ _ _ => itZ_ok
end
end Py
end
section
set_option Elab.async false
set_option linter.all false
set_option maxRecDepth 100000
/-! Comprehensions. -/
namespace Py
open PySem PySem.Spec PyProof.Rows L2

section
variable {K : Fr} {T : List Addr} {W : WX} {G F F' : Hp} {L : List (Nat × Addr)} {σ : L2.St} {H H' : Hp} {e e' : Nv}
theorem gt_set_none_same {e : Nv} {i : Nat} : gt (e.set i none) i = none := by
  by_cases h : i < e.length
  · exact gt_set_self e i none h
  · rw [List.set_eq_of_length_le (by omega)]
    cases q : gt e i with
    | none => rfl
    | some p => exact absurd (gt_some_lt q) h
/-- a slot forgotten -/
theorem Rel.forget (r : Rel K T G F L σ H e) {i : Nat} (hl : ∀ a, (i, a) ∉ L) : Rel K T G F L (σ.set i none) H (e.set i none) := by
  have ne : ∀ j, i ≠ j → (σ.set i (none : Option V))[j]? = σ[j]? := fun j h => List.getElem?_set_ne h
  have un : ∀ {j p}, gt (e.set i none) j = some p → i ≠ j ∧ gt e j = some p := fun {j p} h => by
    rcases gt_of_set h with ⟨rfl, q, _⟩ | q
    · cases q
    · exact q
  refine ⟨by simp [r.len], r.gH, r.fH, r.gf, r.tb, fun j d h => ?_, fun j d h => ?_, fun j d h => ?_, fun j d h => ?_, fun j a m => ?_, fun j k d1 d2 t1 t2 b h1 h2 q1 q2 s1 s2 => ?_⟩
  · obtain ⟨h1, h2⟩ := un h; rw [ne j h1]; exact r.fz j d h2
  · obtain ⟨h1, h2⟩ := un h; rw [ne j h1]; exact r.own j d h2
  · obtain ⟨h1, h2⟩ := un h; rw [ne j h1]; exact r.io j d h2
  · obtain ⟨h1, h2⟩ := un h; rw [ne j h1]; exact r.lk j d h2
  · have hj : i ≠ j := fun z => hl a (z ▸ m)
    rw [ne j hj, gt_set_ne e i j _ hj]
    exact r.pin j a m
  · obtain ⟨a1, a2⟩ := un h1
    obtain ⟨b1, b2⟩ := un h2
    rw [ne j a1] at s1
    rw [ne k b1] at s2
    exact r.apart j k d1 d2 t1 t2 b a2 b2 q1 q2 s1 s2
theorem Rel.wipe : ∀ {vs : List Nat}, Rel K T G F L σ H e → (∀ i ∈ vs, ∀ a, (i, a) ∉ L) → Rel K T G F L (L2.wipe σ vs) H (wipeE e vs)
  | [], r, _ => r
  | v :: vs, r, h => (Rel.wipe r fun i hi => h i (List.mem_cons_of_mem _ hi)).forget (h v List.mem_cons_self)
theorem gt_wipeE : ∀ {vs : List Nat} {i : Nat}, gt (wipeE e vs) i = if i ∈ vs then none else gt e i
  | [], i => by simp [wipeE]
  | v :: vs, i => by
    show gt ((wipeE e vs).set v none) i = _
    by_cases h : v = i
    · subst h; rw [gt_set_none_same]; simp
    · rw [gt_set_ne _ _ _ _ h, gt_wipeE]
      have hiff : (i ∈ v :: vs) = (i ∈ vs) := by
        apply propext
        simp only [List.mem_cons]
        constructor
        · rintro (z | z)
          · exact absurd z.symm h
          · exact z
        · exact .inr
      simp only [hiff]
theorem wipeE_len : ∀ {vs : List Nat}, (wipeE e vs).length = e.length
  | [] => rfl
  | v :: vs => by show ((wipeE e vs).set v none).length = _; simp [wipeE_len (vs := vs)]
theorem backE_len : ∀ {vs : List Nat}, (backE e e' vs).length = e'.length
  | [] => rfl
  | v :: vs => by show ((backE e e' vs).set v (gt e v)).length = _; simp [backE_len (vs := vs)]
theorem gt_backE : ∀ {vs : List Nat} {i : Nat}, e.length = e'.length → gt (backE e e' vs) i = if i ∈ vs then gt e i else gt e' i
  | [], i, _ => by simp [backE]
  | v :: vs, i, hl => by
    show gt ((backE e e' vs).set v (gt e v)) i = _
    by_cases h : v = i
    · subst h
      by_cases hv : v < e.length
      · rw [gt_set_self _ _ _ (by rw [backE_len, ← hl]; exact hv)]; simp
      · rw [List.set_eq_of_length_le (by rw [backE_len, ← hl]; omega), gt_backE hl]
        have z : gt e v = none := by
          cases q : gt e v with
          | none => rfl
          | some p => exact absurd (gt_some_lt q) hv
        have z' : gt e' v = none := by
          cases q : gt e' v with
          | none => rfl
          | some p => exact absurd (gt_some_lt q) (by rw [← hl]; exact hv)
        simp [z, z']
    · rw [gt_set_ne _ _ _ _ h, gt_backE hl]
      have hiff : (i ∈ v :: vs) = (i ∈ vs) := by
        apply propext
        simp only [List.mem_cons]
        constructor
        · rintro (z | z)
          · exact absurd z.symm h
          · exact z
        · exact .inr
      simp only [hiff]
theorem calm_at {vs : List Nat} (h : calmAt e vs = true) {i : Nat} (hi : i ∈ vs) : gt e i = none ∨ ∃ d, gt e i = some (d, .fz) := by
  have := List.all_eq_true.mp h i hi
  split at this
  · rename_i q; exact .inl q
  · rename_i d q; exact .inr ⟨d, q⟩
  · cases this
/-- the comprehension's names hold again what they held -/
theorem Rel.back {vs : List Nat} {H0 F0 : Hp} (r0 : Rel K T G F0 L σ H0 e) (hc : calmAt e vs = true) (x : Ext F0 F) (r : Rel K T G F L (L2.wipe σ vs) H e') : Rel K T G F L σ H (backE e e' vs) := by
  have hl : e.length = e'.length := by rw [r0.len, r.len, wipe_length]
  have out : ∀ i, i ∉ vs → (L2.wipe σ vs)[i]? = σ[i]? := fun i h => wipe_out h
  have cs : ∀ {i d t}, gt (backE e e' vs) i = some (d, t) → (i ∈ vs ∧ t = .fz ∧ gt e i = some (d, .fz)) ∨ (i ∉ vs ∧ gt e' i = some (d, t)) := fun {i d t} h => by
    rw [gt_backE hl] at h
    by_cases hi : i ∈ vs
    · rw [if_pos hi] at h
      rcases calm_at hc hi with z | ⟨d', z⟩
      · rw [z] at h; cases h
      · rw [z] at h; cases h; exact .inl ⟨hi, rfl, z⟩
    · rw [if_neg hi] at h; exact .inr ⟨hi, h⟩
  refine ⟨by rw [backE_len, ← hl, r0.len], r.gH, r.fH, r.gf, r.tb, fun i d h => ?_, fun i d h => ?_, fun i d h => ?_, fun i d h => ?_, fun i a m => ?_, fun i j d1 d2 t1 t2 b h1 h2 q1 q2 s1 s2 => ?_⟩
  · rcases cs h with ⟨h1, _, h2⟩ | ⟨h1, h2⟩
    · obtain ⟨v, a, b⟩ := r0.fz i d h2; exact ⟨v, a, b.ext x⟩
    · rw [← out i h1]; exact r.fz i d h2
  · rcases cs h with ⟨_, z, _⟩ | ⟨h1, h2⟩
    · cases z
    · rw [← out i h1]; exact r.own i d h2
  · rcases cs h with ⟨_, z, _⟩ | ⟨h1, h2⟩
    · cases z
    · rw [← out i h1]; exact r.io i d h2
  · rcases cs h with ⟨_, z, _⟩ | ⟨h1, h2⟩
    · cases z
    · rw [← out i h1]; exact r.lk i d h2
  · obtain ⟨p, d, q⟩ := r0.pin i a m
    have hi : i ∉ vs := fun hi => by
      rcases calm_at hc hi with z | ⟨d', z⟩
      · rw [z] at q; rcases q with q | q <;> cases q
      · rw [z] at q; rcases q with q | q <;> cases q
    rw [gt_backE hl, if_neg hi]
    exact ⟨p, (r.pin i a m).2⟩
  · rcases cs h1 with ⟨_, rfl, _⟩ | ⟨a1, a2⟩
    · rcases q1 with q1 | q1 <;> cases q1
    · rcases cs h2 with ⟨_, rfl, _⟩ | ⟨b1, b2⟩
      · rcases q2 with q2 | q2 <;> cases q2
      · rw [← out i a1] at s1
        rw [← out j b1] at s2
        exact r.apart i j d1 d2 t1 t2 b a2 b2 q1 q2 s1 s2
/-- another's object changes -/
theorem Rel.other (r : Rel K T G F L σ H e) {a : Addr} {u : HO} (hG : G a = none) (hF : F a = none) (hT : ∀ P ∈ T, P ≠ a) (hs : ∀ i d t, gt e i = some (d, t) → (t = .own ∨ t = .io) → σ[i]? ≠ some (some (.ref a))) : Rel K T G F L σ (upd H a u) e := by
  refine ⟨r.len, fun b o x => ?_, fun b o x => ?_, r.gf, fun P hP => ?_, r.fz, fun i d x => ?_, fun i d x => ?_, r.lk, r.pin, r.apart⟩
  · rw [upd_ne (ne_of_none x hG)]; exact r.gH b o x
  · rw [upd_ne (ne_of_none x hF)]; exact r.fH b o x
  · obtain ⟨⟨ps, p1, p2⟩, f, g⟩ := r.tb P hP
    exact ⟨⟨ps, by rw [upd_ne (hT P hP)]; exact p1, p2⟩, f, g⟩
  · obtain ⟨b, x1, x2, x3, x4⟩ := r.own i d x
    exact ⟨b, x1, x2.ext (Ext.refl F) fun w z => by rw [upd_ne (fun y => hs i d _ x (.inl rfl) (by rw [x1, y]))]; exact z, x3, x4⟩
  · obtain ⟨b, x0, x1, x2, x3, x4⟩ := r.io i d x
    exact ⟨b, x0, x1, x2.ext (Ext.refl F) fun w z => by rw [upd_ne (fun y => hs i d _ x (.inr rfl) (by rw [x1, y]))]; exact z, x3, x4⟩
/-- nothing of ours stands at a new place -/
theorem Rel.freshS (r : Rel K T G F L σ H e) {a : Addr} (h : H a = none) : ∀ i d t, gt e i = some (d, t) → (t = .own ∨ t = .io) → σ[i]? ≠ some (some (.ref a)) := fun i d t q w z => by
  rcases w with rfl | rfl
  · obtain ⟨b, x1, x2, _⟩ := r.own i d q
    rw [z] at x1; cases x1
    obtain ⟨u, y⟩ := x2.there; rw [h] at y; cases y
  · obtain ⟨b, _, x1, x2, _⟩ := r.io i d q
    rw [z] at x1; cases x1
    obtain ⟨u, y⟩ := x2.there; rw [h] at y; cases y
end
/-! ### targets that store the names vs alone -/
def tGw (K : Fr) (T : List Addr) (vs : List Nat) (g : GV) : TG := fun v σ H Q => ∃ G F L e d o, Rel K T G F L σ H e ∧ Vr K T G F σ H e v d o ∧ match g d o e with
  | some e' => ∀ σ' H' F', Ext F F' → Rel K T G F' L σ' H' e' → L2.wipe σ' vs = L2.wipe σ vs → Q σ' H'
  | none => False
def tGsw (K : Fr) (T : List Addr) (ws : List Nat) (gs : List GV) : TGs := fun vs σ H Q => ∃ G F L e ds, Rel K T G F L σ H e ∧ RpAll K F vs ds ∧ match gTs gs ds e with
  | some e' => ∀ σ' H' F', Ext F F' → Rel K T G F' L σ' H' e' → L2.wipe σ' ws = L2.wipe σ ws → Q σ' H'
  | none => False
abbrev SGw (X : Cx) (T : List Addr) (vs : List Nat) (tg : Expr) (g : GV) : Prop := PG X tg (tGw X.K T vs g)
abbrev SGsw (X : Cx) (T : List Addr) (vs : List Nat) (tg : List Expr) (g : List GV) : Prop := PGs X tg (tGsw X.K T vs g)
section
variable {K : Fr} {T : List Addr} {W : WX} {G F : Hp} {L : List (Nat × Addr)} {σ : L2.St} {H : Hp} {e e' : Nv}
theorem wipe_get : ∀ {vs : List Nat} {i : Nat} {σ : L2.St}, (L2.wipe σ vs)[i]? = if i < σ.length then (if i ∈ vs then some none else σ[i]?) else none
  | [], i, σ => by
    show σ[i]? = _
    by_cases h : i < σ.length
    · simp [h]
    · simp [h]
  | v :: vs, i, σ => by
    show ((L2.wipe σ vs).set v none)[i]? = _
    by_cases h : v = i
    · subst h
      by_cases hv : v < σ.length
      · rw [List.getElem?_set_self (by rw [wipe_length]; exact hv)]; simp [hv]
      · rw [List.getElem?_eq_none (by simp [wipe_length]; omega)]; simp [hv]
    · rw [List.getElem?_set_ne h, wipe_get]
      have hiff : (i ∈ v :: vs) = (i ∈ vs) := by
        apply propext
        simp only [List.mem_cons]
        constructor
        · rintro (z | z)
          · exact absurd z.symm h
          · exact z
        · exact .inr
      simp only [hiff]
theorem wipe_set {vs : List Nat} {i : Nat} (hi : i ∈ vs) (x : Option V) : L2.wipe (σ.set i x) vs = L2.wipe σ vs := by
  apply List.ext_getElem?
  intro j
  rw [wipe_get, wipe_get, List.length_set]
  by_cases hj : j ∈ vs
  · simp [hj]
  · have : i ≠ j := fun z => hj (z ▸ hi)
    rw [List.getElem?_set_ne this]
theorem wipe_wipe {vs : List Nat} {σ : L2.St} : L2.wipe (L2.wipe σ vs) vs = L2.wipe σ vs := by
  apply List.ext_getElem?
  intro j
  rw [wipe_get, wipe_get, wipe_length]
  by_cases h1 : j < σ.length
  · by_cases h2 : j ∈ vs
    · simp [h1, h2]
    · simp only [h1, h2, if_true, if_false]
      first | done | (rw [wipe_get]; simp [h1, h2])
  · simp [h1]
theorem gNw_ok {vs : List Nat} {i : Nat} (hi : i ∈ vs) {v : V} {Q : L2.St → Hp → Prop} (q : tGw K T vs (gN i) v σ H Q) : gName i v σ H Q := by
  obtain ⟨G, F, L, e, d, o, r, n, q⟩ := q
  cases h : gN i d o e with
  | none => rw [h] at q; exact False.elim q
  | some e' =>
    rw [h] at q
    exact q _ H F (Ext.refl F) (gN_rel r n h) (wipe_set hi _)
theorem gTw_ok {vs : List Nat} {gs : List GV} {v : V} {Q : L2.St → Hp → Prop} (n : Nat) (hn : gs.length = n) (q : tGw K T vs (gT gs) v σ H Q) : gTup K n (tGsw K T vs gs) v σ H Q := by
  obtain ⟨G, F, L, e, d, o, r, vr, q⟩ := q
  have q1 : tG K T (gT gs) v σ H (fun σ' H' => L2.wipe σ' vs = L2.wipe σ vs → Q σ' H') := by
    refine ⟨G, F, L, e, d, o, r, vr, ?_⟩
    cases h : gT gs d o e with
    | none => rw [h] at q; exact q
    | some e' => rw [h] at q; exact fun σ' H' F' x r' w => q σ' H' F' x r' w
  obtain ⟨a, xs, h1, h2, h3, G, F, L, e, ds, r, ra, q⟩ := gT_ok n hn q1
  refine ⟨a, xs, h1, h2, h3, G, F, L, e, ds, r, ra, ?_⟩
  cases h : gTs gs ds e with
  | none => rw [h] at q; exact q
  | some e' => rw [h] at q; exact fun σ' H' F' x r' w => q σ' H' F' x r' w
theorem gTsw_nil {ws : List Nat} {vs : List V} {Q : L2.St → Hp → Prop} (q : tGsw K T ws [] vs σ H Q) : gNil vs σ H Q := by
  obtain ⟨G, F, L, e, ds, r, ra, q⟩ := q
  cases ra with
  | nil => exact ⟨rfl, q σ H F (Ext.refl F) r rfl⟩
  | cons a b => exact False.elim q
theorem gTsw_cons {ws : List Nat} {g : GV} {gs : List GV} {vs : List V} {Q : L2.St → Hp → Prop} (q : tGsw K T ws (g :: gs) vs σ H Q) : gCons (tGw K T ws g) (tGsw K T ws gs) vs σ H Q := by
  obtain ⟨G, F, L, e, ds, r, ra, q⟩ := q
  cases ra with
  | nil => exact False.elim q
  | @cons v vs d ds a b =>
    refine ⟨v, vs, rfl, G, F, L, e, d, false, r, a, ?_⟩
    have q : match (match g d false e with
      | some e' => gTs gs ds e'
      | none => none) with
      | some e' => ∀ σ' H' F', Ext F F' → Rel K T G F' L σ' H' e' → L2.wipe σ' ws = L2.wipe σ ws → Q σ' H'
      | none => False := q
    cases h : g d false e with
    | none => rw [h] at q; exact q
    | some e1 =>
      rw [h] at q
      intro σ' H' F' x r' w
      refine ⟨G, F', L, e1, ds, r', b.ext x, ?_⟩
      dsimp only at q
      cases h2 : gTs gs ds e1 with
      | none => rw [h2] at q; exact q
      | some e2 => rw [h2] at q; exact fun σ2 H2 F2 y r2 w2 => q σ2 H2 F2 (x.trans y) r2 (w2.trans w)
end
section
variable {X : Cx} {T : List Addr} {W : WX} {pos : Pos} {vs : List Nat}
theorem sgw_n {i : Nat} {x : Str} (hm : i ∈ vs) (hN : X.N.Nodup) (hi : X.N[i]? = some x) (hx : Loc X.env.scope x) (hf : X.fn x = true ∨ X.env.scope.names.lookup x = some .local := by first | exact .inl rfl | exact .inr rfl | assumption) : SGw X T vs (.Name x pos) (gN i) := PG.mono (pg_name hN hi hx hf) fun _ _ _ _ => gNw_ok hm
theorem sgw_t {es : List Expr} {k n : Nat} {gs : List GV} (hc : X.calm = true) (h : SGsw X T vs es gs) (hl : gs.length = n := by rfl)
    (hn : (assignEach es X.env).length = n := by rfl) (hst : (assignEach es X.env).findIdx? (·.1) = none := by rfl) : SGw X T vs (.Tuple es k pos) (gT gs) := PG.mono (pg_tup hc h hn hst) fun _ _ _ _ => gTw_ok n hl
theorem sgsw_nil : SGsw X T vs [] [] := PGs.mono pgs_nil fun _ _ _ _ => gTsw_nil
theorem sgsw_cons {e : Expr} {es : List Expr} {g : GV} {gs : List GV} (h1 : SGw X T vs e g) (h2 : SGsw X T vs es gs)
    (hs : (assignEach (e :: es) X.env).map (·.2) = assign e X.env :: (assignEach es X.env).map (·.2) := by rfl) : SGsw X T vs (e :: es) (g :: gs) := PGs.mono (pgs_cons h1 h2 hs) fun _ _ _ _ => gTsw_cons
end
/-! ### list comprehensions -/
abbrev WF : WX := fun _ _ _ _ => False
section
variable {K : Fr} {T : List Addr} {W : WX} {G F : Hp} {L : List (Nat × Addr)} {σ : L2.St} {H : Hp} {e : Nv}
theorem sz_eq : (sizeLine : Nat) = 16777216 := sizeLine_eq
theorem lc_ok {it : IV} {vs : List Nat} {g : GV} {t : TV} {f : EV} {Q : VK} (q : tE K T W (eLc it vs g t f) σ H Q) : tLc (tI K T W it) (tGw K T vs g) (tT K T WF t) (tE K T WF f) vs σ H Q := by
  obtain ⟨G, F, L, e, r, q⟩ := q
  refine ⟨G, F, L, e, r, ?_⟩
  have q : tQ K T W σ (bnd (it e) fun p => if calmAt p.2 vs = true then bnd (lcL vs g t f p.1 [] (wipeE p.2 vs)) fun q => .ok (.list q.1, true, backE p.2 q.2 vs) else .bad) G F L Q := q
  cases h : it e with
  | bad => rw [h] at q; exact q
  | ex c d e' => rw [h] at q; exact q
  | ok p =>
    obtain ⟨ds, e1⟩ := p
    rw [h] at q
    simp only [bnd_ok] at q
    intro J H1 F1 x1 r1 wk D hD
    by_cases hc : calmAt e1 vs = true
    · rw [if_pos hc] at q
      have q := tQ.mono q x1
      obtain ⟨GW, Y, w, hg, hy⟩ := wk
      have noL : ∀ i ∈ vs, ∀ a, (i, a) ∉ L := fun i hi a m => by
        obtain ⟨_, d, q⟩ := r1.pin i a m
        rcases calm_at hc hi with z | ⟨d', z⟩
        · rw [z] at q; rcases q with q | q <;> cases q
        · rw [z] at q; rcases q with q | q <;> cases q
      have rw1 := r1.wipe noL
      have hGD : G D = none := r1.gH.none hD
      have hTD : ∀ P ∈ T, P ≠ D := fun P hP z => by
        obtain ⟨⟨ps, p1, _⟩, _⟩ := r1.tb P hP
        rw [z, hD] at p1; cases p1
      refine lc_it w (fun i H' => ∃ F' e' acc da, Ext F1 F' ∧ Rel K T G F' L (L2.wipe σ vs) H' e' ∧ H' D = some (.lst acc) ∧ RpAll K F' acc da ∧ F' D = none ∧
          (∀ j d t, gt e' j = some (d, t) → (t = .own ∨ t = .io) → (L2.wipe σ vs)[j]? ≠ some (some (.ref D))) ∧
          tQ K T W σ (bnd (lcL vs g t f (ds.drop i) da e') fun q => .ok (.list q.1, true, backE e1 q.2 vs)) G F' L Q) ?_ ?_ ?_ ?_
      · exact ⟨F1, _, [], [], Ext.refl F1, rw1.other hGD (r1.fH.none hD) hTD (rw1.freshS hD), upd_same, .nil, r1.fH.none hD, rw1.freshS hD, by simpa using q⟩
      · rintro i H' hi ⟨F', e', acc, da, x, r', _⟩
        exact hg H' (x.trans r'.fH) r'.gH
      · rintro i x Ha Hb hi ⟨F', e', acc, da, x2, r', hacc, ra, hFD, hsD, q'⟩ y
        obtain ⟨d, hd, hdr⟩ := drop_at hi
        obtain ⟨F3, z1, z2, z3, z4, rp⟩ := hy i Ha x Hb F' d x2 r'.fH hd y
        have r3 := r'.grow z1 z2 z3 z4
        rw [hdr] at q'
        have q' : tQ K T W σ (bnd (match g d false e' with
          | some e1 => bnd (nox (t e1)) fun p => if p.1 = true then bnd (nox (f p.2)) fun q => if da.length < 16777216 then lcL vs g t f (ds.drop (i + 1)) (da ++ [q.1]) (wipeE q.2.2 vs) else .bad
            else lcL vs g t f (ds.drop (i + 1)) da (wipeE p.2 vs)
          | none => .bad) fun q => .ok (.list q.1, true, backE e1 q.2 vs)) G F' L Q := q'
        have hF3 : F3 D = none := by
          cases z : F3 D with
          | none => rfl
          | some o =>
            rcases z4 D o z with ⟨u, y⟩ | y
            · rw [hFD] at y; cases y
            · rw [hacc] at y; cases y
        -- the new list is another's meanwhile
        have rG : Rel K T (upd G D (.lst acc)) F3 L (L2.wipe σ vs) Hb e' := r3.addG (z3 _ _ hacc) hGD hF3 hTD hsD
        refine ⟨upd G D (.lst acc), F3, L, e', d, false, rG, rp, ?_⟩
        cases hge : g d false e' with
        | none => rw [hge] at q'; exact False.elim q'
        | some e2 =>
          rw [hge] at q'
          intro σ4 H4 F4 y4 r4 w4
          refine ⟨w4.trans wipe_wipe, upd G D (.lst acc), F4, L, e2, r4, ?_⟩
          have hw4 : L2.wipe σ4 vs = L2.wipe σ vs := w4.trans wipe_wipe
          have hLD : ∀ j, (j, D) ∉ L := Vr.notL (v := .ref D) (d := .none) rw1 hGD (rw1.freshS hD)
          -- a turn's end
          have fin : ∀ {H6 F6 e6}, Ext F4 F6 → Rel K T (upd G D (.lst acc)) F6 L σ4 H6 e6 → H6 D = some (.lst acc) ∧ F6 D = none ∧ Rel K T G F6 L (L2.wipe σ vs) H6 (wipeE e6 vs) ∧ (∀ j d t, gt (wipeE e6 vs) j = some (d, t) → (t = .own ∨ t = .io) → (L2.wipe σ vs)[j]? ≠ some (some (.ref D))) := by
            intro H6 F6 e6 y6 r6
            have a1 : H6 D = some (.lst acc) := r6.gH D _ upd_same
            have a2 : F6 D = none := by
              cases z : F6 D with
              | none => rfl
              | some o => have y := r6.gf D o z; rw [upd_same] at y; cases y
            have a3 := (r6.wipe noL)
            rw [hw4] at a3
            refine ⟨a1, a2, a3.unG hGD hLD, fun j d t q w z => ?_⟩
            rcases w with rfl | rfl
            · obtain ⟨b, y1, y2, y3, y4⟩ := a3.own j d q
              rw [z] at y1; cases y1
              rw [upd_same] at y3; cases y3
            · obtain ⟨b, y0, y1, y2, y3, y4⟩ := a3.io j d q
              rw [z] at y1; cases y1
              rw [upd_same] at y3; cases y3
          dsimp only at q'
          cases ht : t e2 with
          | bad => rw [ht] at q'; exact False.elim q'
          | ex c d' e' => rw [ht] at q'; exact False.elim q'
          | ok pt =>
            obtain ⟨b, e3⟩ := pt
            rw [ht] at q'
            simp only [nox_ok, bnd_ok] at q'
            intro H5 F5 y5 r5
            cases b with
            | false =>
              simp only [Bool.false_eq_true, if_false] at q' ⊢
              obtain ⟨a1, a2, a3, a4⟩ := fin y5 r5
              exact ⟨F5, _, acc, da, (x2.trans z1).trans (y4.trans y5), a3, a1, ra.ext ((z1.trans y4).trans y5), a2, a4, tQ.mono q' ((z1.trans y4).trans y5)⟩
            | true =>
              simp only [if_true] at q' ⊢
              refine ⟨upd G D (.lst acc), F5, L, e3, r5, ?_⟩
              cases hf : f e3 with
              | bad => rw [hf] at q'; exact False.elim q'
              | ex c d' e' => rw [hf] at q'; exact False.elim q'
              | ok pf =>
                obtain ⟨df, o, e6⟩ := pf
                rw [hf] at q'
                simp only [nox_ok, bnd_ok] at q'
                intro v H6 F6 y6 r6 vr
                obtain ⟨F7, y7, r7, rpv⟩ := r6.still vr
                obtain ⟨a1, a2, a3, a4⟩ := fin (y5.trans (y6.trans y7)) r7
                have hlen : da.length < 16777216 := by
                  by_cases hl : da.length < 16777216
                  · exact hl
                  · rw [if_neg hl] at q'; exact False.elim q'
                rw [if_pos hlen] at q'
                have xx : Ext F' F7 := ((z1.trans y4).trans y5).trans (y6.trans y7)
                refine ⟨acc, a1, by rw [ra.length, sz_eq]; exact hlen, F7, _, acc ++ [v], da ++ [df], x2.trans xx, a3.other hGD a2 hTD a4, upd_same, (ra.ext xx).append (.cons rpv .nil), a2, a4, tQ.mono q' xx⟩
      · rintro H' ⟨F', e', acc, da, x2, r', hacc, ra, hFD, hsD, q'⟩
        rw [List.drop_length] at q'
        have q' : tQ K T W σ (.ok (.list da, true, backE e1 e' vs)) G F' L Q := q'
        have rb := r1.back hc x2 r'
        refine q' _ H' F' (Ext.refl F') rb ⟨D, rfl, .lst hacc ra, hGD, hFD, fun j d t z w y => ?_⟩
        have hl : e1.length = e'.length := by rw [r1.len, r'.len, wipe_length]
        rw [gt_backE hl] at z
        by_cases hj : j ∈ vs
        · rw [if_pos hj] at z
          rcases calm_at hc hj with z' | ⟨d', z'⟩
          · rw [z'] at z; cases z
          · rw [z'] at z; cases z; rcases w with w | w <;> cases w
        · rw [if_neg hj] at z
          exact hsD j d t z w (by rw [wipe_out hj]; exact y)
    · rw [if_neg hc] at q; exact False.elim q
end
section
variable {X : Cx} {T : List Addr} {W : WX} {pos : Pos}
abbrev BCx (X : Cx) (scope : Scope) (s : Shared) (H : Hp) (C : Addr) (cl : List (Str × Addr)) (fp : List Addr) : Cx := X.blk s H scope (compEnvC scope cl C X.env) fp
theorem pts_st {c : Expr} {t : TV} (h : ST X T W c t) : PTs X [c] (tT X.K T W t) := pts_one h
theorem pts_no : PTs X [] (tT X.K T W tYs) := ⟨fun pins s σ H Q I h => by
  refine pts_nil.run pins s σ H Q I ?_
  obtain ⟨G, F, L, e, r, q⟩ := h
  exact q H F (Ext.refl F) r⟩
theorem se_lc {elt tg iter : Expr} {ifs : List Expr} {scope : Scope} {own : List (Str × Nat)} {it : IV} {g : GV} {t : TV} {f : EV} (hc : X.calm = true) (hN : X.N.Nodup) (hi : SI X T W tg iter it) (ok : blkC X.N X.env.scope scope own = true)
    (hg : ∀ (s : Shared) (H : Hp) (C : Addr) (cl : List (Str × Addr)) (fp : List Addr), SGw (BCx X scope s H C cl fp) T (own.map (·.2)) tg g)
    (ht : ∀ (s : Shared) (H : Hp) (C : Addr) (cl : List (Str × Addr)) (fp : List Addr), PTs (BCx X scope s H C cl fp) ifs (tT X.K T WF t))
    (he : ∀ (s : Shared) (H : Hp) (C : Addr) (cl : List (Str × Addr)) (fp : List Addr), SE (BCx X scope s H C cl fp) T WF elt f) (hs : ∀ x, foldedSetIterable iter X.env x = pure x := by intro _; rfl) :
    SE X T W (.ListComp elt [⟨tg, iter, ifs, 0⟩] scope pos) (eLc it (own.map (·.2)) g t f) := PE.mono (pe_lc hc hN hi (blkOk_by ok) hg ht he hs) fun _ _ _ => lc_ok
theorem ss_lc {i : Nat} {y : Str} {py spos : Pos} {elt tg iter : Expr} {ifs : List Expr} {scope : Scope} {own : List (Str × Nat)} {it : IV} {g : GV} {t : TV} {f : EV} (hc : X.calm = true) (hN : X.N.Nodup) (hy : X.N[i]? = some y) (hyl : X.env.scope.names.lookup y = some .local)
    (hsw : swapsWith (.ListComp elt [⟨tg, iter, ifs, 0⟩] scope pos) (some (.Name y py)) spos.line X.env = pure true) (hi : SI X T W tg iter it) (ok : blkC X.N X.env.scope scope own = true)
    (hg : ∀ (s : Shared) (H : Hp) (C : Addr) (cl : List (Str × Addr)) (fp : List Addr), SGw (BCx X scope s H C cl fp) T (own.map (·.2)) tg g)
    (ht : ∀ (s : Shared) (H : Hp) (C : Addr) (cl : List (Str × Addr)) (fp : List Addr), PTs (BCx X scope s H C cl fp) ifs (tT X.K T WF t))
    (he : ∀ (s : Shared) (H : Hp) (C : Addr) (cl : List (Str × Addr)) (fp : List Addr), SE (BCx X scope s H C cl fp) T WF elt f) (hs : ∀ x, foldedSetIterable iter X.env x = pure x := by intro _; rfl) :
    SS X T W (.Assign [.Name y py] (.ListComp elt [⟨tg, iter, ifs, 0⟩] scope pos) spos) (sAsg (gN i) (eLc it (own.map (·.2)) g t f)) :=
  PS.mono (ps_setLc hc hN hy hyl hsw hi (blkOk_by ok) hg ht he hs) fun D σ H q => by
    have q2 := sAsg_ok q
    have q3 := tE_mono (fun v H1 h => gN_ok h) q2
    exact lc_ok q3
end
end Py
end
section
set_option Elab.async false
set_option linter.all false
set_option maxRecDepth 100000
/-! Defs and their calls. -/
namespace Py
open PySem PySem.Spec PyProof.Rows L2

/-- what a def hands back -/
def Vf (K : Fr) (G F H : Hp) (v : V) (d : PyData) : Bool → Prop
  | false => Rp K F v d
  | true => ∃ a, v = .ref a ∧ Ob K F H a d ∧ G a = none ∧ F a = none
structure Bse (T : List Addr) (G F H : Hp) : Prop where
  g : Ext G H
  f : Ext F H
  dj : ∀ a o, F a = some o → G a = none
  tb : TabOk T G F H
def SpV (K : Fr) (T : List Addr) (m : FnV) : Sp := fun vs H Q E => ∃ G F ds, Bse T G F H ∧ RpAll K F vs ds ∧ match m ds with
  | .ret d o _ => ∀ v H' F', Ext F F' → Bse T G F' H' → Vf K G F' H' v d o → Q v H'
  | .ex c d => ∀ u dx H' F', Ext F F' → Bse T G F' H' → ExV K F' c d u dx H' → E u dx H'
  | .bad => False
/-- the first argument is an object that the def may change -/
def SpI (K : Fr) (T : List Addr) (m : FnV) : Sp := fun vs H Q E => ∃ G F ds d0 a ws, Bse T G F H ∧ vs = .ref a :: ws ∧ Ob K F H a d0 ∧ G a = none ∧ F a = none ∧ RpAll K F ws ds ∧ match m (d0 :: ds) with
  | .ret d o b => ∀ v H' F', Ext F F' → Bse T G F' H' → Ob K F' H' a b → F' a = none → Vf K G F' H' v d o → (o = true → v ≠ .ref a) → Q v H'
  | _ => False
section
variable {K : Fr} {T : List Addr} {W : WX} {G F F' : Hp} {L : List (Nat × Addr)} {σ : L2.St} {H H' : Hp} {e : Nv}
theorem Rel.bse (r : Rel K T G F L σ H e) : Bse T G F H := ⟨r.gH, r.fH, r.gf, r.tb⟩
open Classical in
/-- others' objects, and this frame's own but slot x's -/
noncomputable def ownG (G : Hp) (σ : L2.St) (H : Hp) (e : Nv) (x : Option Nat) : Hp := fun a => if ∃ i d t, some i ≠ x ∧ gt e i = some (d, t) ∧ (t = .own ∨ t = .io) ∧ σ[i]? = some (some (.ref a)) then H a else G a
theorem ownG_in {x : Option Nat} {a : Addr} {i : Nat} {d : PyData} {t : Tg} (h1 : some i ≠ x) (h2 : gt e i = some (d, t)) (h3 : t = .own ∨ t = .io) (h4 : σ[i]? = some (some (.ref a))) : ownG G σ H e x a = H a := by
  unfold ownG; rw [if_pos ⟨i, d, t, h1, h2, h3, h4⟩]
theorem ownG_out {x : Option Nat} {a : Addr} (h : ¬ ∃ i d t, some i ≠ x ∧ gt e i = some (d, t) ∧ (t = .own ∨ t = .io) ∧ σ[i]? = some (some (.ref a))) : ownG G σ H e x a = G a := by
  unfold ownG; rw [if_neg h]
theorem own_at (r : Rel K T G F L σ H e) {i : Nat} {d : PyData} {t : Tg} (h2 : gt e i = some (d, t)) (h3 : t = .own ∨ t = .io) : ∃ a, σ[i]? = some (some (.ref a)) ∧ Ob K F H a d ∧ G a = none ∧ F a = none := by
  rcases h3 with rfl | rfl
  · obtain ⟨a, x1, x2, x3, x4⟩ := r.own i d h2; exact ⟨a, x1, x2, x3, x4⟩
  · obtain ⟨a, x0, x1, x2, x3, x4⟩ := r.io i d h2; exact ⟨a, x1, x2, x3, x4⟩
theorem ownG_ext (r : Rel K T G F L σ H e) (x : Option Nat) : Ext G (ownG G σ H e x) := fun a o q => by
  by_cases h : ∃ i d t, some i ≠ x ∧ gt e i = some (d, t) ∧ (t = .own ∨ t = .io) ∧ σ[i]? = some (some (.ref a))
  · obtain ⟨i, d, t, h1, h2, h3, h4⟩ := h
    rw [ownG_in h1 h2 h3 h4]; exact r.gH a o q
  · rw [ownG_out h]; exact q
theorem Rel.bseO (r : Rel K T G F L σ H e) (x : Option Nat) : Bse T (ownG G σ H e x) F H := by
  refine ⟨fun a o q => ?_, r.fH, fun a o q => ?_, fun P hP => ?_⟩
  · by_cases h : ∃ i d t, some i ≠ x ∧ gt e i = some (d, t) ∧ (t = .own ∨ t = .io) ∧ σ[i]? = some (some (.ref a))
    · obtain ⟨i, d, t, h1, h2, h3, h4⟩ := h
      rw [ownG_in h1 h2 h3 h4] at q; exact q
    · rw [ownG_out h] at q; exact r.gH a o q
  · by_cases h : ∃ i d t, some i ≠ x ∧ gt e i = some (d, t) ∧ (t = .own ∨ t = .io) ∧ σ[i]? = some (some (.ref a))
    · obtain ⟨i, d, t, h1, h2, h3, h4⟩ := h
      obtain ⟨b, x1, x2, x3, x4⟩ := own_at r h2 h3
      rw [h4] at x1; cases x1
      rw [q] at x4; cases x4
    · rw [ownG_out h]; exact r.gf a o q
  · obtain ⟨t, f, g⟩ := r.tb P hP
    refine ⟨t, f, ?_⟩
    by_cases h : ∃ i d t, some i ≠ x ∧ gt e i = some (d, t) ∧ (t = .own ∨ t = .io) ∧ σ[i]? = some (some (.ref P))
    · obtain ⟨i, d, t', h1, h2, h3, h4⟩ := h
      obtain ⟨b, x1, x2, x3, x4⟩ := own_at r h2 h3
      rw [h4] at x1; cases x1
      exact absurd rfl (x2.notTab t)
    · rw [ownG_out h]; exact g
/-- behind a call -/
theorem Rel.after (r : Rel K T G F L σ H e) (x : Ext F F') (b : Bse T (ownG G σ H e none) F' H') : Rel K T G F' L σ H' e := by
  have gx := ownG_ext r none
  have ow : ∀ i d t a, gt e i = some (d, t) → (t = .own ∨ t = .io) → σ[i]? = some (some (.ref a)) → Ob K F H a d → Ob K F' H' a d ∧ F' a = none := fun i d t a q w s ob => by
    obtain ⟨u, hu⟩ := ob.there
    have hg : ownG G σ H e none a = some u := by rw [ownG_in (by simp) q w s]; exact hu
    refine ⟨ob.ext x fun v z => ?_, ?_⟩
    · rw [hu] at z; cases z; exact b.g a u hg
    · cases z : F' a with
      | none => rfl
      | some o => have y := b.dj a o z; rw [hg] at y; cases y
  refine ⟨r.len, gx.trans b.g, b.f, fun a o q => gx.none (b.dj a o q), fun P hP => let ⟨t, f, g⟩ := b.tb P hP; ⟨t, f, gx.none g⟩, fun i d q => let ⟨v, a, z⟩ := r.fz i d q; ⟨v, a, z.ext x⟩, fun i d q => ?_, fun i d q => ?_, fun i d q => let ⟨a, x0, x1, x2⟩ := r.lk i d q; ⟨a, x0, x1, x2.ext x fun _ z => z⟩, r.pin, r.apart⟩
  · obtain ⟨a, x1, x2, x3, x4⟩ := r.own i d q
    obtain ⟨y1, y2⟩ := ow i d _ a q (.inl rfl) x1 x2
    exact ⟨a, x1, y1, x3, y2⟩
  · obtain ⟨a, x0, x1, x2, x3, x4⟩ := r.io i d q
    obtain ⟨y1, y2⟩ := ow i d _ a q (.inr rfl) x1 x2
    exact ⟨a, x0, x1, y1, x3, y2⟩
theorem Vf.vr (r : Rel K T G F L σ H e) {v : V} {d : PyData} {o : Bool} (h : Vf K (ownG G σ H e none) F' H' v d o) : Vr K T G F' σ H' e v d o := by
  cases o with
  | false => exact h
  | true =>
    obtain ⟨a, rfl, ob, g, f⟩ := h
    refine ⟨a, rfl, ob, (ownG_ext r none).none g, f, fun i d' t q w z => ?_⟩
    rw [ownG_in (by simp) q w z] at g
    obtain ⟨b, x1, x2, _⟩ := own_at r q w
    rw [z] at x1; cases x1
    obtain ⟨u, y⟩ := x2.there
    rw [g] at y; cases y
/-- behind a call that may have changed slot i's object -/
theorem Rel.afterI (r : Rel K T G F L σ H e) {i : Nat} {d0 b : PyData} {t : Tg} {a : Addr} (hi : gt e i = some (d0, t)) (ht : t = .own ∨ t = .io) (hs : σ[i]? = some (some (.ref a))) (x : Ext F F') (bs : Bse T (ownG G σ H e (some i)) F' H') (ob : Ob K F' H' a b) (hF : F' a = none) :
    Rel K T G F' L σ H' (e.set i (some (b, t))) := by
  have gx := ownG_ext r (some i)
  have hl := gt_some_lt hi
  obtain ⟨a', xa, _, hG, _⟩ := own_at r hi ht
  rw [hs] at xa; cases xa
  have ow : ∀ j d t a, i ≠ j → gt e j = some (d, t) → (t = .own ∨ t = .io) → σ[j]? = some (some (.ref a)) → Ob K F H a d → Ob K F' H' a d ∧ F' a = none := fun j d t a hij q w s ob => by
    obtain ⟨u, hu⟩ := ob.there
    have hg : ownG G σ H e (some i) a = some u := by rw [ownG_in (by simpa using fun z => hij z.symm) q w s]; exact hu
    refine ⟨ob.ext x fun v z => ?_, ?_⟩
    · rw [hu] at z; cases z; exact bs.g a u hg
    · cases z : F' a with
      | none => rfl
      | some o => have y := bs.dj a o z; rw [hg] at y; cases y
  refine ⟨by simp [r.len], gx.trans bs.g, bs.f, fun a o q => gx.none (bs.dj a o q), fun P hP => let ⟨t, f, g⟩ := bs.tb P hP; ⟨t, f, gx.none g⟩, fun j d q => ?_, fun j d q => ?_, fun j d q => ?_, fun j d q => ?_, fun j c m => ?_, fun j k d1 d2 t1 t2 c h1 h2 q1 q2 s1 s2 => ?_⟩
  · rcases gt_of_set q with ⟨rfl, q, _⟩ | ⟨q, q'⟩
    · cases q; rcases ht with z | z <;> cases z
    · obtain ⟨v, y1, y2⟩ := r.fz j d q'; exact ⟨v, y1, y2.ext x⟩
  · rcases gt_of_set q with ⟨rfl, q, _⟩ | ⟨q, q'⟩
    · cases q; exact ⟨a, hs, ob, hG, hF⟩
    · obtain ⟨c, x1, x2, x3, x4⟩ := r.own j d q'
      obtain ⟨y1, y2⟩ := ow j d _ c q q' (.inl rfl) x1 x2
      exact ⟨c, x1, y1, x3, y2⟩
  · rcases gt_of_set q with ⟨rfl, q, _⟩ | ⟨q, q'⟩
    · cases q
      obtain ⟨c, x0, x1, _⟩ := r.io i d0 hi
      rw [hs] at x1; cases x1
      exact ⟨a, x0, hs, ob, hG, hF⟩
    · obtain ⟨c, x0, x1, x2, x3, x4⟩ := r.io j d q'
      obtain ⟨y1, y2⟩ := ow j d _ c q q' (.inr rfl) x1 x2
      exact ⟨c, x0, x1, y1, x3, y2⟩
  · rcases gt_of_set q with ⟨rfl, q, _⟩ | ⟨q, q'⟩
    · cases q; rcases ht with z | z <;> cases z
    · obtain ⟨c, x0, x1, x2⟩ := r.lk j d q'; exact ⟨c, x0, x1, x2.ext x fun _ z => z⟩
  · obtain ⟨p1, d2, p2⟩ := r.pin j c m
    refine ⟨p1, ?_⟩
    by_cases hij : i = j
    · subst hij
      rw [gt_set_self e i _ hl]
      rcases ht with rfl | rfl
      · rw [hi] at p2; rcases p2 with p2 | p2 <;> cases p2
      · exact ⟨b, .inl rfl⟩
    · rw [gt_set_ne e i j _ hij]; exact ⟨d2, p2⟩
  · have un : ∀ {j d1 t1}, gt (e.set i (some (b, t))) j = some (d1, t1) → ∃ d0, gt e j = some (d0, t1) := fun {j d1 t1} q => by
      rcases gt_of_set q with ⟨rfl, q, _⟩ | ⟨q, q'⟩
      · cases q; exact ⟨d0, hi⟩
      · exact ⟨d1, q'⟩
    obtain ⟨_, h1⟩ := un h1
    obtain ⟨_, h2⟩ := un h2
    exact r.apart j k _ _ t1 t2 c h1 h2 q1 q2 s1 s2
theorem Vf.vrI (r : Rel K T G F L σ H e) {i : Nat} {d0 b : PyData} {t : Tg} {a : Addr} (hi : gt e i = some (d0, t)) (hs : σ[i]? = some (some (.ref a))) {v : V} {d : PyData} {o : Bool} (h : Vf K (ownG G σ H e (some i)) F' H' v d o) (ne : o = true → v ≠ .ref a) : Vr K T G F' σ H' (e.set i (some (b, t))) v d o := by
  cases o with
  | false => exact h
  | true =>
    obtain ⟨c, rfl, ob, g, f⟩ := h
    refine ⟨c, rfl, ob, (ownG_ext r (some i)).none g, f, fun j d' t' q w z => ?_⟩
    rcases gt_of_set q with ⟨rfl, q, _⟩ | ⟨q, q'⟩
    · rw [hs] at z; cases z; exact ne rfl rfl
    · rw [ownG_in (by simpa using fun z => q z.symm) q' w z] at g
      obtain ⟨b, x1, x2, _⟩ := own_at r q' w
      rw [z] at x1; cases x1
      obtain ⟨u, y⟩ := x2.there
      rw [g] at y; cases y
theorem call_ok {m : FnV} {fs : List EV} {Q : VK} (q : tE K T W (eCall m fs) σ H Q) : tAs (fs.map (tE K T W)) σ H fun vs H1 => SpV K T m vs H1 Q fun u dx H' => W u dx σ H' := by
  obtain ⟨G, F, L, e, r, q⟩ := q
  refine evV_evO fs r ?_
  have q : tQ K T W σ (bnd (evV fs e) fun p => match m p.1 with
    | .ret d o _ => .ok (d, o, p.2)
    | .ex c d => .ex c d p.2
    | .bad => .bad) G F L Q := q
  cases h : evV fs e with
  | bad => rw [h] at q; exact q
  | ex c d e' => rw [h] at q; exact q
  | ok p =>
    rw [h] at q
    simp only [bnd_ok] at q
    intro vs H' F' x r' ra
    refine ⟨ownG G σ H' p.2 none, F', p.1, r'.bseO none, ra, ?_⟩
    cases hm : m p.1 with
    | bad => rw [hm] at q; exact q
    | ex c d =>
      rw [hm] at q
      exact fun u dx H2 F2 y b v => q u dx H2 F2 (x.trans y) (r'.after y b) v
    | ret d o bx =>
      rw [hm] at q
      exact fun v H2 F2 y b vf => q v H2 F2 (x.trans y) (r'.after y b) (Vf.vr r' vf)
theorem callI_ok {m : FnV} {i : Nat} {fs : List EV} {Q : VK} (q : tE K T W (eCallI m i fs) σ H Q) : tAs (tVar i :: fs.map (tE K T W)) σ H fun vs H1 => SpI K T m vs H1 Q fun u dx H' => W u dx σ H' := by
  obtain ⟨G, F, L, e, r, q⟩ := q
  have q : tQ K T W σ (if (gt e i).isSome = true then bnd (evV fs e) fun p => match gt p.2 i with
    | some (c, .own) => (match m (c :: p.1) with
      | .ret d o b => .ok (d, o, p.2.set i (some (b, .own)))
      | _ => .bad)
    | some (c, .io) => (match m (c :: p.1) with
      | .ret d o b => .ok (d, o, p.2.set i (some (b, .io)))
      | _ => .bad)
    | _ => .bad else .bad) G F L Q := q
  cases h0 : gt e i with
  | none => rw [h0] at q; exact False.elim q
  | some p0 =>
    obtain ⟨d00, t00⟩ := p0
    obtain ⟨v0, hv0, _⟩ := r.now h0
    rw [h0] at q
    simp only [Option.isSome_some, if_true] at q
    refine ⟨v0, hv0, evV_evO fs (Q := fun ws H2 => SpI K T m (v0 :: ws) H2 Q fun u dx H' => W u dx σ H') r ?_⟩
    cases h : evV fs e with
    | bad => rw [h] at q; exact q
    | ex c d e' => rw [h] at q; exact q
    | ok p =>
      rw [h] at q
      simp only [bnd_ok] at q
      intro ws H' F' x r' ra
      have key : ∀ (c : PyData) (t : Tg), gt p.2 i = some (c, t) → (t = .own ∨ t = .io) → (match m (c :: p.1) with
          | .ret d o b => tQ K T W σ (.ok (d, o, p.2.set i (some (b, t)))) G F L Q
          | _ => False) → SpI K T m (v0 :: ws) H' Q fun u dx H' => W u dx σ H' := fun c t hg ht q => by
        obtain ⟨a, x1, x2, x3, x4⟩ := own_at r' hg ht
        rw [hv0] at x1
        cases x1
        have hga : ownG G σ H' p.2 (some i) a = none := by
          rw [ownG_out]
          · exact x3
          · rintro ⟨j, d, t', h1, h2, h3, h4⟩
            exact h1 (by rw [r'.apart j i d c t' t a h2 hg h3 ht h4 hv0])
        refine ⟨ownG G σ H' p.2 (some i), F', p.1, c, a, ws, r'.bseO (some i), rfl, x2, hga, x4, ra, ?_⟩
        cases hm : m (c :: p.1) with
        | bad => rw [hm] at q; exact q
        | ex c d => rw [hm] at q; exact q
        | ret d o b =>
          rw [hm] at q
          intro v H2 F2 y bs ob hF vf ne
          exact q v H2 F2 (x.trans y) (r'.afterI hg ht hv0 y bs ob hF) (Vf.vrI r' hg hv0 vf ne)
      cases hg : gt p.2 i with
      | none => rw [hg] at q; exact False.elim q
      | some z =>
        obtain ⟨c, t⟩ := z
        rw [hg] at q
        cases t with
        | own =>
          refine key c .own hg (.inl rfl) ?_
          dsimp only at q ⊢
          cases hm : m (c :: p.1) with
          | bad => rw [hm] at q; exact q
          | ex c' d => rw [hm] at q; exact q
          | ret d o b => rw [hm] at q; exact q
        | io =>
          refine key c .io hg (.inr rfl) ?_
          dsimp only at q ⊢
          cases hm : m (c :: p.1) with
          | bad => rw [hm] at q; exact q
          | ex c' d => rw [hm] at q; exact q
          | ret d o b => rw [hm] at q; exact q
        | fz => exact False.elim q
        | lk => exact False.elim q
end
end Py
end
section
set_option Elab.async false
set_option linter.all false
set_option maxRecDepth 100000
/-! A def's promise by its body. -/
namespace Py
open PySem PySem.Spec PyProof.Rows L2

theorem gt_eq : ∀ (e : Nv) (i : Nat), gt e i = (e[i]?).getD none
  | [], _ => by simp
  | _ :: _, 0 => by simp
  | _ :: l, i + 1 => by simp [gt_eq l i]
theorem gt_ini {ds : List PyData} {n i : Nat} {d : PyData} {t : Tg} (h : gt (ini ds n) i = some (d, t)) : t = .fz ∧ ds[i]? = some d := by
  rw [gt_eq] at h
  unfold ini at h
  by_cases hi : i < ds.length
  · rw [List.getElem?_append_left (by simpa using hi), List.getElem?_map, List.getElem?_eq_getElem hi] at h
    simp at h
    exact ⟨h.2.symm, by rw [List.getElem?_eq_getElem hi, h.1]⟩
  · rw [List.getElem?_append_right (by simpa using hi), List.getElem?_replicate] at h
    split at h <;> simp at h
theorem start_get {N : List Str} {vs : List V} {i : Nat} {v : V} (h : vs[i]? = some v) : (L2.start N vs)[i]? = some (some v) := by
  unfold L2.start
  have hi := (List.getElem?_eq_some_iff.mp h).1
  rw [List.getElem?_append_left (by simpa using hi), List.getElem?_map, h]; rfl
section
variable {K : Fr} {T : List Addr} {G F : Hp} {H : Hp} {N : List Str} {vs : List V} {ds : List PyData}
theorem start_rel (b : Bse T G F H) (r : RpAll K F vs ds) : Rel K T G F [] (L2.start N vs) H (ini ds N.length) := by
  have hl := r.length
  refine ⟨by simp [ini, L2.start, hl], b.g, b.f, b.dj, b.tb, fun i d h => ?_, fun i d h => ?_, fun i d h => ?_, fun i d h => ?_, fun i a m => (by cases m), fun i j d d' t t' a h _ w _ _ _ => ?_⟩
  · obtain ⟨_, h⟩ := gt_ini h
    obtain ⟨v, h1, h2⟩ := r.getD h
    exact ⟨v, start_get h1, h2⟩
  · cases (gt_ini h).1
  · cases (gt_ini h).1
  · cases (gt_ini h).1
  · rw [(gt_ini h).1] at w; rcases w with w | w <;> cases w
theorem startI_rel {a : Addr} {d0 : PyData} (b : Bse T G F H) (ob : Ob K F H a d0) (hG : G a = none) (hF : F a = none) (r : RpAll K F vs ds) (hn : 0 < N.length) : Rel K T G F [(0, a)] (L2.start N (.ref a :: vs)) H (iniI (d0 :: ds) N.length) := by
  have hl := r.length
  have s0 : (L2.start N (.ref a :: vs))[0]? = some (some (.ref a)) := start_get rfl
  have ss : ∀ i v, vs[i]? = some v → (L2.start N (.ref a :: vs))[i + 1]? = some (some v) := fun i v h => start_get (by simpa using h)
  have un : ∀ {i d t}, gt (iniI (d0 :: ds) N.length) i = some (d, t) → (i = 0 ∧ d = d0 ∧ t = .io) ∨ ∃ j, i = j + 1 ∧ t = .fz ∧ ds[j]? = some d := fun {i d t} h => by
    cases i with
    | zero =>
      have h : (some (d0, Tg.io) : Slot) = some (d, t) := h
      cases h; exact .inl ⟨rfl, rfl, rfl⟩
    | succ j =>
      have h : gt (ini ds (N.length - 1)) j = some (d, t) := h
      exact .inr ⟨j, rfl, gt_ini h⟩
  refine ⟨by simp [iniI, ini, L2.start, hl]; omega, b.g, b.f, b.dj, b.tb, fun i d h => ?_, fun i d h => ?_, fun i d h => ?_, fun i d h => ?_, fun i c m => ?_, fun i j d d' t t' c h h' w w' _ _ => ?_⟩
  · rcases un h with ⟨_, _, z⟩ | ⟨j, rfl, _, h⟩
    · cases z
    · obtain ⟨v, h1, h2⟩ := r.getD h
      exact ⟨v, ss j v h1, h2⟩
  · rcases un h with ⟨_, _, z⟩ | ⟨j, _, z, _⟩ <;> cases z
  · rcases un h with ⟨rfl, rfl, _⟩ | ⟨j, _, z, _⟩
    · exact ⟨a, List.mem_cons_self, s0, ob, hG, hF⟩
    · cases z
  · rcases un h with ⟨_, _, z⟩ | ⟨j, _, z, _⟩ <;> cases z
  · rw [List.mem_singleton] at m
    cases m
    exact ⟨s0, d0, .inl rfl⟩
  · rcases un h with ⟨rfl, _, _⟩ | ⟨j', _, z, _⟩
    · rcases un h' with ⟨rfl, _, _⟩ | ⟨j', _, z, _⟩
      · rfl
      · rw [z] at w'; rcases w' with w' | w' <;> cases w'
    · rw [z] at w; rcases w with w | w <;> cases w
theorem Vr.vf {L : List (Nat × Addr)} {σ : L2.St} {e : Nv} {v : V} {d : PyData} {o : Bool} (h : Vr K T G F σ H e v d o) : Vf K G F H v d o := by
  cases o with
  | false => exact h
  | true => obtain ⟨a, x1, x2, x3, x4, _⟩ := h; exact ⟨a, x1, x2, x3, x4⟩
theorem spV_read {n k : Nat} {body : SV} {Q : VK} {E : XK} (hn : n = N.length) (h : SpV K T (fn n k body) vs H Q E) : tS K T (fun u dx _ H => E u dx H) body { nx := fun _ H' => Q .non H', rt := Q } (L2.start N vs) H := by
  obtain ⟨G, F, ds, b, r, q⟩ := h
  subst hn
  refine ⟨G, F, [], _, start_rel b r, ?_⟩
  unfold fn at q
  by_cases hk : ds.length = k
  · rw [if_pos hk] at q
    cases hb : body (ini ds N.length) with
    | bad => rw [hb] at q; exact q
    | ex c d e => rw [hb] at q; exact fun u dx σ' H' F' x r' v => q u dx H' F' x r'.bse v
    | ok f =>
      rw [hb] at q
      cases f with
      | nx e => exact fun σ' H' F' x r' => q .non H' F' x r'.bse .non
      | rt d o e => exact fun σ' v H' F' x r' vr => q v H' F' x r'.bse (Vr.vf (L := []) vr)
      | ct e => exact False.elim q
      | bk e => exact False.elim q
  · rw [if_neg hk] at q; exact False.elim q
theorem spV_len {n k : Nat} {body : SV} {Q : VK} {E : XK} (h : SpV K T (fn n k body) vs H Q E) : vs.length = k := by
  obtain ⟨G, F, ds, b, r, q⟩ := h
  unfold fn at q
  by_cases hk : ds.length = k
  · rw [r.length, hk]
  · rw [if_neg hk] at q; exact False.elim q
theorem spI_read {n k : Nat} {body : SV} {Q : VK} {E : XK} (hn : n = N.length) (hn0 : 0 < n) (h : SpI K T (fnI n k body) vs H Q E) : tS K T (fun u dx _ H => E u dx H) body { nx := fun _ H' => Q .non H', rt := Q } (L2.start N vs) H := by
  obtain ⟨G, F, ds, d0, a, ws, b, rfl, ob, hG, hF, r, q⟩ := h
  subst hn
  refine ⟨G, F, [(0, a)], _, startI_rel b ob hG hF r hn0, ?_⟩
  unfold fnI at q
  by_cases hk : (d0 :: ds).length = k
  · rw [if_pos hk] at q
    have at0 : ∀ {σ' H' F' e}, Rel K T G F' [(0, a)] σ' H' e → ∃ d t, gt e 0 = some (d, t) ∧ (t = .io → Ob K F' H' a d ∧ F' a = none) := fun {σ' H' F' e} r' => by
      obtain ⟨p, d, q | q⟩ := r'.pin 0 a (List.mem_cons_self)
      · obtain ⟨c, x0, x1, x2, x3, x4⟩ := r'.io 0 d q
        rw [p] at x1; cases x1
        exact ⟨d, .io, q, fun _ => ⟨x2, x4⟩⟩
      · exact ⟨d, .lk, q, fun z => (by cases z)⟩
    cases hb : body (iniI (d0 :: ds) N.length) with
    | bad => rw [hb] at q; exact q
    | ex c d e => rw [hb] at q; exact False.elim q
    | ok f =>
      rw [hb] at q
      cases f with
      | nx e =>
        intro σ' H' F' x r'
        have q : match (match gt e 0 with
          | some (b, .io) => CR.ret .none false b
          | _ => .bad) with
          | .ret d o b => ∀ v H' F', Ext F F' → Bse T G F' H' → Ob K F' H' a b → F' a = none → Vf K G F' H' v d o → (o = true → v ≠ .ref a) → Q v H'
          | _ => False := q
        obtain ⟨d, t, hg, ho⟩ := at0 r'
        rw [hg] at q
        cases t with
        | io => obtain ⟨o1, o2⟩ := ho rfl; exact q .non H' F' x r'.bse o1 o2 .non (fun z => (by cases z))
        | fz => exact False.elim q
        | own => exact False.elim q
        | lk => exact False.elim q
      | rt d o e =>
        intro σ' v H' F' x r' vr
        have q : match (match gt e 0 with
          | some (b, .io) => CR.ret d o b
          | _ => .bad) with
          | .ret d o b => ∀ v H' F', Ext F F' → Bse T G F' H' → Ob K F' H' a b → F' a = none → Vf K G F' H' v d o → (o = true → v ≠ .ref a) → Q v H'
          | _ => False := q
        obtain ⟨d1, t, hg, ho⟩ := at0 r'
        rw [hg] at q
        cases t with
        | io =>
          obtain ⟨o1, o2⟩ := ho rfl
          refine q v H' F' x r'.bse o1 o2 (Vr.vf (L := []) vr) fun z y => ?_
          subst z
          obtain ⟨c, rfl, x2, x3, x4, x5⟩ := vr
          cases y
          exact x5 0 d1 _ hg (.inr rfl) (r'.pin 0 a List.mem_cons_self).1
        | fz => exact False.elim q
        | own => exact False.elim q
        | lk => exact False.elim q
      | ct e => exact False.elim q
      | bk e => exact False.elim q
  · rw [if_neg hk] at q; exact False.elim q
theorem spI_len {n k : Nat} {body : SV} {Q : VK} {E : XK} (h : SpI K T (fnI n k body) vs H Q E) : vs.length = k := by
  obtain ⟨G, F, ds, d0, a, ws, b, rfl, ob, hG, hF, r, q⟩ := h
  unfold fnI at q
  by_cases hk : (d0 :: ds).length = k
  · rw [← hk]; simp [r.length]
  · rw [if_neg hk] at q; exact False.elim q
end
section
variable {P : Program} {w : World} {K : Fr} {mg : Str → Option Value} {base : Heap} {x qual : Str} {params : Arguments} {body : List Stmt} {scope : Scope} {f : Addr} {fd : FuncData} {T : List Addr} {N ps : List Str} {k : Nat}
/-- the wish of a def's body -/
abbrev WD (E : XK) : WX := fun u dx _ H => E u dx H
abbrev DCx (P : Program) (w : World) (K : Fr) (mg : Str → Option Value) (base : Heap) (N : List Str) (qual : Str) (scope : Scope) (f : Addr) (cdv : Value) (A : Around) (outer : List Env) (s : Shared) (H : Hp) (E : XK) : Cx := cxOf (L2.CX P w) P w K mg base N qual scope f cdv A outer s H E
theorem fn_ok (FD : FunD K x qual params body scope [] [] f fd) (S : FnScope N ps scope) {b : List SV} {n m : Nat} (hn : n = N.length) (hm : m = ps.length)
    (D : ∀ (cdv : Value) (A : Around) (outer : List Env) (s : Shared) (H : Hp) (E : XK), Room k (A.deeper (envOfC qual scope s.heap.objs.size f cdv)) → SSs (DCx P w K mg base N qual scope f cdv A outer s H E) T (WD E) body b) :
    FnOk P w K mg base (L2.CX P w) (k + 1) f fd ps (SpV K T (fn n m (sSeq b))) :=
  FD.ok S (fun _ _ _ _ h => (spV_len h).trans hm) fun cdv A outer s H vs Q E hr h => ⟨_, D cdv A outer s H E hr, spV_read hn h⟩
theorem fnI_ok (FD : FunD K x qual params body scope [] [] f fd) (S : FnScope N ps scope) {b : List SV} {n m : Nat} (hn : n = N.length) (hn0 : 0 < n) (hm : m = ps.length)
    (D : ∀ (cdv : Value) (A : Around) (outer : List Env) (s : Shared) (H : Hp) (E : XK), Room k (A.deeper (envOfC qual scope s.heap.objs.size f cdv)) → SSs (DCx P w K mg base N qual scope f cdv A outer s H E) T (WD E) body b) :
    FnOk P w K mg base (L2.CX P w) (k + 1) f fd ps (SpI K T (fnI n m (sSeq b))) :=
  FD.ok S (fun _ _ _ _ h => (spI_len h).trans hm) fun cdv A outer s H vs Q E hr h => ⟨_, D cdv A outer s H E hr, spI_read hn hn0 h⟩
end
section
variable {X : Cx} {T : List Addr} {W : WX} {k : Nat} {f : Addr} {fd : FuncData} {ps : List Str} {x : Str} {p pos : Pos} {e : Expr} {es : List Expr} {m : FnV}
theorem tAs_tl {K : Fr} {i : Nat} {fs : List EV} {σ : L2.St} {H : Hp} {Q : List V → Hp → Prop} : tAs (tVar i :: fs.map (tE K T W)) σ H Q ↔ ∃ v, σ[i]? = some (some v) ∧ tAs (fs.map (tE K T W)) σ H fun vs H1 => Q (v :: vs) H1 := Iff.rfl
/-- what stands of a def, for its callers -/
structure Cal (X : Cx) (k : Nat) (x : Str) (n : Nat) (sp : Sp) : Prop where
  ex : ∃ (f : Addr) (fd : FuncData) (ps : List Str), FnOk X.prog X.w X.K X.mg X.base (L2.CX X.prog X.w) k f fd ps sp ∧ X.mg x = some (.ref f) ∧ PySem.W.keepIn X.K (.ref f) = true ∧ Binds X.K fd ps [] ∧ ps.length = n
theorem se_call {n : Nat} {fs : List EV} (c : Cal X k x n (SpV X.K T m)) (hr : Room k X.A) (hg : Gl X x) (tk : Takes X W) (ha : SVs X T W (e :: es) fs) (hdb : (x == ("__debug__" : Str)) = false := by decide)
    (he : starEach (e :: es) X.env = (false, eval e X.env) :: starEach es X.env := by rfl) (hpl : (backTo pos (starEach es X.env)).any (·.1) = false := by rfl) : SE X T W (.Call (.Name x p) (e :: es) [] pos) (eCall m fs) := by
  obtain ⟨f, fd, ps, F, hm, hk, hb, _⟩ := c.ex
  refine PE.mono (pe_callSD F hr hg hm hk hb .nil (fun σ => passAt tk σ) ha hdb he hpl) fun σ H Q q => ?_
  have q2 := call_ok q
  exact tAs_mono fs (fun vs H1 h => by rw [List.append_nil]; exact h) q2
theorem se_callI {i : Nat} {n : Nat} {fs : List EV} {y : Str} {py : Pos} (c : Cal X k x n (SpI X.K T m)) (hr : Room k X.A) (hg : Gl X x) (tk : Takes X W) (hN : X.N[i]? = some y) (hv : Vis X.env.scope y) (ha : SVs X T W es fs) (hdb : (x == ("__debug__" : Str)) = false := by decide)
    (hd : (y == ("__debug__" : Str)) = false := by decide) (hcd : (y == ("__classdict__" : Str)) = false := by decide)
    (he : starEach (.Name y py :: es) X.env = (false, eval (.Name y py) X.env) :: starEach es X.env := by rfl) (hpl : (backTo pos (starEach es X.env)).any (·.1) = false := by rfl) : SE X T W (.Call (.Name x p) (.Name y py :: es) [] pos) (eCallI m i fs) := by
  obtain ⟨f, fd, ps, F, hm, hk, hb, _⟩ := c.ex
  refine PE.mono (pe_callSD F hr hg hm hk hb .nil (fun σ => passAt tk σ) (pa_cons (pe_var hN hv hd hcd) ha he) hdb he hpl) fun σ H Q q => ?_
  obtain ⟨v, hv, q2⟩ := callI_ok q
  exact ⟨v, hv, tAs_mono fs (fun vs H1 h => by
    show SpI X.K T m ((v :: vs) ++ []) H1 Q (WE W σ)
    rw [List.append_nil]; exact h) q2⟩
theorem se_call0 {n : Nat} (c : Cal X k x n (SpV X.K T m)) (hr : Room k X.A) (hg : Gl X x) (tk : Takes X W) (hdb : (x == ("__debug__" : Str)) = false := by decide) : SE X T W (.Call (.Name x p) [] [] pos) (eCall m []) := by
  obtain ⟨f, fd, ps, F, hm, hk, hb, _⟩ := c.ex
  refine ⟨fun pins s σ H Q I h => ?_⟩
  have q : SpV X.K T m [] H Q fun u dx H' => W u dx σ H' := call_ok (fs := []) h
  refine wpAny_Call_Name_kw (ld_glob I hg hm ?_ hdb)
  exact PySem.W.callWith_K0 I.kIn hk (run_fnS (us := []) (E := fun σ => WE W σ) F hr hb (passAt tk σ) I .nil q)
end
end Py
end
section
set_option Elab.async false
set_option linter.all false
set_option maxRecDepth 100000
set_option maxHeartbeats 4000000
/-! Operations on data, first part: numbers, texts, lists, tuples. -/
namespace Py
open PySem PySem.Spec PyProof.Rows L2

def immV : PyData → Option V
  | .none => some .non
  | .bool b => some (.bl b)
  | .int i => some (.int i)
  | .str x => some (.str x)
  | _ => none
section
variable {K : Fr} {F H : Hp} {v w : V} {d : PyData}
theorem imm_rp (h : immV d = some v) : Rp K F v d := by
  cases d with
  | none => cases h; exact .non
  | bool b => cases h; exact .bl b
  | int i => cases h; exact .int i
  | str x => cases h; exact .str x
  | list _ => cases h
  | tuple _ => cases h
  | dict _ => cases h
theorem now_imm (h : immV d = some w) (n : Now K F H v d) : v = w := by
  rcases n with n | ⟨a, rfl, o⟩
  · cases n <;> cases h <;> rfl
  · cases o <;> cases h
theorem now_int {i : Int} (n : Now K F H v (.int i)) : v = .int i := now_imm rfl n
theorem now_str {i : Str} (n : Now K F H v (.str i)) : v = .str i := now_imm rfl n
theorem now_bl {i : Bool} (n : Now K F H v (.bool i)) : v = .bl i := now_imm rfl n
theorem now_non (n : Now K F H v .none) : v = .non := now_imm rfl n
theorem now_list {ds : List PyData} (e : Ext F H) (n : Now K F H v (.list ds)) : ∃ a xs, v = .ref a ∧ SqL K H a xs ∧ RpAll K F xs ds := by
  rcases n with n | ⟨a, rfl, o⟩
  · cases n with | lst s r => exact ⟨_, _, rfl, SqL.ext e s, r⟩
  · cases o with | lst x r => exact ⟨_, _, rfl, SqL.of x, r⟩
theorem now_tup {ds : List PyData} (n : Now K F H v (.tuple ds)) : ∃ a xs, v = .ref a ∧ F a = some (.tup xs) ∧ RpAll K F xs ds := by
  rcases n with n | ⟨a, rfl, o⟩
  · cases n with | tup s r => exact ⟨_, _, rfl, s, r⟩
  · cases o
end
theorem now1 {K : Fr} {F H : Hp} {vs : List V} {d : PyData} (n : NowAll K F H vs [d]) : ∃ x, vs = [x] ∧ Now K F H x d := by
  match vs, n with
  | [x], ⟨a, _⟩ => exact ⟨x, rfl, a⟩
theorem now2 {K : Fr} {F H : Hp} {vs : List V} {d e : PyData} (n : NowAll K F H vs [d, e]) : ∃ x y, vs = [x, y] ∧ Now K F H x d ∧ Now K F H y e := by
  match vs, n with
  | [x, y], ⟨a, b, _⟩ => exact ⟨x, y, rfl, a, b⟩

/-! one operation or another -/
def oOr (h h' : Op) : Op := fun ds => match h ds with
  | some z => some z
  | none => h' ds
section
variable {K : Fr}
theorem opD_or {r r' : List V → Hp → VK → Prop} {h h' : Op} (a : OpD K r h) (b : OpD K r' h') : OpD K (fun vs H Q => r vs H Q ∨ r' vs H Q) (oOr h h') := fun F H vs ds d o Q e n q k => by
  unfold oOr at q
  cases z : h ds with
  | some w => rw [z] at q; exact .inl (a F H vs ds d o Q e n (z.trans q) k)
  | none => rw [z] at q; exact .inr (b F H vs ds d o Q e n q k)
theorem opD_or2 {r r' : R2} {h h' : Op} (a : OpD K (r2 r) h) (b : OpD K (r2 r') h') : OpD K (r2 fun x y H Q => r x y H Q ∨ r' x y H Q) (oOr h h') := fun F H vs ds d o Q e n q k => by
  rcases opD_or a b F H vs ds d o Q e n q k with ⟨x, y, e, z⟩ | ⟨x, y, e, z⟩
  · exact ⟨x, y, e, .inl z⟩
  · exact ⟨x, y, e, .inr z⟩
/-- a value that is no object -/
theorem k_imm {F H : Hp} {v : V} {d : PyData} {Q : VK} (h : immV d = some v) (k : ∀ v H' F', Ext F F' → Ext F' H' → Ext H H' → (∀ a u, F' a = some u → (∃ u, F a = some u) ∨ H a = none) → NewV K F' H H' v d false → Q v H') (e : Ext F H) : Q v H :=
  k v H F (Ext.refl F) e (Ext.refl H) (fun a u z => .inl ⟨u, z⟩) (imm_rp h)
theorem k_old {F H : Hp} {v : V} {d : PyData} {Q : VK} (r : Rp K F v d) (k : ∀ v H' F', Ext F F' → Ext F' H' → Ext H H' → (∀ a u, F' a = some u → (∃ u, F a = some u) ∨ H a = none) → NewV K F' H H' v d false → Q v H') (e : Ext F H) : Q v H :=
  k v H F (Ext.refl F) e (Ext.refl H) (fun a u z => .inl ⟨u, z⟩) r
/-- a new list -/
theorem k_lst {F H : Hp} {xs : List V} {ds : List PyData} {Q : VK} (r : RpAll K F xs ds) (k : ∀ v H' F', Ext F F' → Ext F' H' → Ext H H' → (∀ a u, F' a = some u → (∃ u, F a = some u) ∨ H a = none) → NewV K F' H H' v (.list ds) true → Q v H') (e : Ext F H) (p : Addr) (hp : H p = none) : Q (.ref p) (upd H p (.lst xs)) :=
  k _ _ F (Ext.refl F) (e.trans (Ext.upd hp)) (Ext.upd hp) (fun a u z => .inl ⟨u, z⟩) ⟨p, rfl, hp, e.none hp, .lst upd_same r⟩
/-- a new tuple -/
theorem k_tup {F H : Hp} {xs : List V} {ds : List PyData} {Q : VK} (r : RpAll K F xs ds) (k : ∀ v H' F', Ext F F' → Ext F' H' → Ext H H' → (∀ a u, F' a = some u → (∃ u, F a = some u) ∨ H a = none) → NewV K F' H H' v (.tuple ds) false → Q v H') (e : Ext F H) (p : Addr) (hp : H p = none) : Q (.ref p) (upd H p (.tup xs)) := by
  have x : Ext F (upd F p (.tup xs)) := Ext.upd (e.none hp)
  refine k _ _ (upd F p (.tup xs)) x (fun a u z => ?_) (Ext.upd hp) (fun a u z => ?_) (.tup upd_same (r.ext x))
  · by_cases q : a = p
    · subst q; rw [upd_same] at z ⊢; exact z
    · rw [upd_ne q] at z ⊢; exact e a u z
  · by_cases q : a = p
    · subst q; exact .inr hp
    · rw [upd_ne q] at z; exact .inl ⟨u, z⟩
end

/-! ### numbers -/
def oI (C : Int → Int → Bool) (g : Int → Int → PyData) : Op
  | [.int i, .int j] => if C i j then some (g i j, false) else none
  | _ => none
def oI0 (g : Int → Int → PyData) : Op
  | [.int i, .int j] => some (g i j, false)
  | _ => none
section
variable {K : Fr}
theorem opD_I {C : Int → Int → Bool} {C' : Int → Int → Prop} {g : Int → Int → PyData} {g' : Int → Int → V} (hC : ∀ i j, C i j = true → C' i j) (hg : ∀ i j, immV (g i j) = some (g' i j)) : OpD K (r2 (rI C' g')) (oI C g) := fun F H vs ds d o Q e n q k => by
  unfold oI at q
  split at q
  · rename_i i j
    split at q
    · rename_i c
      cases q
      obtain ⟨x, y, rfl, nx, ny⟩ := now2 n
      cases now_int nx
      cases now_int ny
      exact ⟨_, _, rfl, i, j, rfl, rfl, hC i j c, k_imm (hg i j) k e⟩
    · cases q
  · cases q
theorem opD_I0 {g : Int → Int → PyData} {g' : Int → Int → V} (hg : ∀ i j, immV (g i j) = some (g' i j)) : OpD K (r2 (rI0 g')) (oI0 g) := fun F H vs ds d o Q e n q k => by
  unfold oI0 at q
  split at q
  · rename_i i j
    cases q
    obtain ⟨x, y, rfl, nx, ny⟩ := now2 n
    cases now_int nx
    cases now_int ny
    exact ⟨_, _, rfl, i, j, rfl, rfl, k_imm (hg i j) k e⟩
  · cases q
end
def cMul (i j : Int) : Bool := (decide (-(2 ^ 64) < i) && decide (i < 2 ^ 64)) || (decide (-(2 ^ 64) < j) && decide (j < 2 ^ 64))
def cMulW (i j : Int) : Bool := decide (i.natAbs.log2 + j.natAbs.log2 < 1000000)
def cDivN (i j : Int) : Bool := decide (j ≠ 0) && decide (j.natAbs < 1073741824)
def cDivW (i j : Int) : Bool := decide (0 < j) && decide (j.natAbs.log2 < 9000)
def cNz (i j : Int) : Bool := decide (j ≠ 0)
def cPow (i j : Int) : Bool := decide (0 ≤ j) && decide (j ≤ 1000000) && decide (i.natAbs < 2 ^ 64)
def oAddI : Op := oI0 fun i j => .int (i + j)
def oSubI : Op := oI0 fun i j => .int (i - j)
def oMulI : Op := oOr (oI cMul fun i j => .int (i * j)) (oI cMulW fun i j => .int (i * j))
def oDiv : Op := oOr (oI cDivN fun i j => .int (i.fdiv j)) (oI cDivW fun i j => .int (i.fdiv j))
def oMod : Op := oI cNz fun i j => .int (i.fmod j)
def oPow : Op := oI cPow fun i j => .int (i ^ j.toNat)
theorem d_div {K : Fr} : OpD K (r2 fun x y H Q => rI CDivN (fun i j => .int (i.fdiv j)) x y H Q ∨ rI CDivW (fun i j => .int (i / j)) x y H Q) oDiv := by
  refine opD_or2 (opD_I (fun i j h => by simpa [cDivN, CDivN] using h) fun i j => rfl) fun F H vs ds d o Q e n q k => ?_
  unfold oI at q
  split at q
  · rename_i i j
    split at q
    · rename_i c
      cases q
      obtain ⟨x, y, rfl, nx, ny⟩ := now2 n
      cases now_int nx
      cases now_int ny
      have c : 0 < j ∧ j.natAbs.log2 < 9000 := by simpa [cDivW] using c
      refine ⟨_, _, rfl, i, j, rfl, rfl, c, ?_⟩
      show Q (.int (i / j)) H
      rw [← Int.fdiv_eq_ediv_of_nonneg i (by omega : 0 ≤ j)]
      exact k_imm rfl k e
    · cases q
  · cases q

/-! ### texts -/
def oAddS : Op
  | [.str i, .str j] => if i.length + j.length ≤ 16777216 then some (.str (i ++ j), false) else none
  | _ => none

/-! ### lists and tuples -/
def rCatL (K : PySem.W.Frag) : R2 := fun x y H Q => ∃ l b xs zs, x = .ref l ∧ y = .ref b ∧ SqL K H l xs ∧ SqL K H b zs ∧ xs.length + zs.length ≤ sizeLine ∧ ∀ p, H p = none → Q (.ref p) (upd H p (.lst (xs ++ zs)))
section
variable {X : Cx}
theorem op_catL : OpR X (binaryOp .Add) (rCatL X.K) := by
  intro pins s σ H x y v u Q I rx ry h
  obtain ⟨l, b, xs, zs, rfl, rfl, hl, hb, hz, q⟩ := h
  cases rx
  cases ry
  obtain ⟨its, r, ⟨⟨c1, d1, dt1, sl1⟩, n1, e1, f1, f2, f3⟩, _⟩ := I.list hl
  obtain ⟨its2, r', ⟨⟨c2, d2, dt2, sl2⟩, n2, e2, g1, g2, g3⟩, _⟩ := I.list hb
  simp only at f1 f2 f3 g1 g2 g3
  subst f1 f2 f3 g1 g2 g3
  have z1 := r.length
  have z2 := r'.length
  refine concat_meets ⟨_, e1, rfl⟩ ⟨_, e2, rfl⟩ noFill_list_add seq_list_add F.slot_list_add F.entry_list_add (F.args_list_add_2 _ _) (list_addW l b its.toArray its2.toArray n1 n2 _ _ sl1 sl2 (by simp; omega)) ⟨e1, e2, ?_⟩
  rw [show its.toArray ++ its2.toArray = (its ++ its2).toArray by simp]
  exact ⟨.ref _, _, I.lnew (t' := s.toks) (r.append r') (by rw [List.length_append]; omega), rfl, q _ I.fresh⟩
end

theorem rmul_list_any (a : Int) (t : Tok) (l : Addr) (items : Array Value) (n : Nat) (du : Option Addr) (so : Array (Option Value)) :
    Meets (Builtin.«int.__rmul__» ⟨[.int a t, .ref l], []⟩) (fun _ R s => s.heap.get? l = some { cls := .type "list", dict := du, data := .seq items n, slots := so } ∧ R (.ok (.ret Value.notImplemented)) s) :=
  .of_wp fun prog w A R s h => by
    obtain ⟨g1, g2, g3, g4, g5⟩ := s
    obtain ⟨hl, h⟩ := h
    wp_walk
    exact ⟨_, rfl, h⟩
theorem mul_list_any (l : Addr) (items : Array Value) (n : Nat) (du : Option Addr) (so : Array (Option Value)) (x : Int) (u : Tok) (c0 : ¬(!Builtin.List.listFitsIndex x) = true) (c1 : ¬items.size * x.toNat > (2 ^ 63 - 1) / 8) (c2 : ¬Builtin.List.listTooLong (items.size * x.toNat) = true) :
    Meets (Builtin.«list.__mul__» ⟨[.ref l, .int x u], []⟩) (fun _ R s => s.heap.get? l = some { cls := .type "list", dict := du, data := .seq items n, slots := so } ∧
      R (.ok (.ret (Value.ref s.heap.objs.size))) { s with heap := s.heap.push { cls := Value.type "list", data := Data.seq (List.foldl (fun x1 x2 => x1 ++ x2) #[] (List.replicate (if items.isEmpty = true then 0 else x.toNat) items)) }, toks := s.toks }) :=
  .of_wp fun prog w A R s h => by
    obtain ⟨g1, g2, g3, g4, g5⟩ := s
    obtain ⟨hl, h⟩ := h
    have fit := AutoListH.joined_fits c2
    have k1 := AutoSeq1.idx_int
    wp_walk using AutoSeq1.wpAny_loadPart' hl
    repeat (first
      | (refine wpAny_ite_false (decide_eq_false c0) ?_; wp_walk using AutoSeq1.wpAny_loadPart' hl)
      | (refine wpAny_ite_false (decide_eq_false c1) ?_; wp_walk using AutoSeq1.wpAny_loadPart' hl)
      | (refine wpAny_ite_false (decide_eq_false c2) ?_; wp_walk using AutoSeq1.wpAny_loadPart' hl)
      | (refine wpAny_ite_false (decide_eq_false (Nat.not_lt.mpr fit)) ?_; wp_walk using AutoSeq1.wpAny_loadPart' hl))
    exact ⟨_, rfl, h⟩
/-- list * int -/
def rRepL (K : Fr) : R2 := fun x y H Q => ∃ l k xs, x = .ref l ∧ y = .int k ∧ SqL K H l xs ∧ -(2 ^ 63) ≤ k ∧ k < 2 ^ 63 ∧ xs.length * k.toNat ≤ sizeLine ∧ ∀ p, H p = none → Q (.ref p) (upd H p (.lst (List.replicate k.toNat xs).flatten))
section
variable {X : Cx}
theorem op_repL : OpR X (binaryOp .Mult) (rRepL X.K) := by
  intro pins s σ H x y v u Q I rx ry h
  obtain ⟨l, k, xs, rfl, rfl, hs, h1, h2, hz, q⟩ := h
  cases rx
  obtain ⟨t, rfl⟩ := ry
  obtain ⟨its, r, ⟨⟨m1, m2, m3, m4⟩, n, e, f1, f2, f3⟩, _⟩ := I.list hs
  simp only at f1 f2 f3
  subst f1 f2 f3
  have hl := r.length
  have size : its.toArray.size * k.toNat ≤ sizeLine := by rw [List.size_toArray, ← hl]; exact hz
  have c1 : ¬ its.toArray.size * k.toNat > (2 ^ 63 - 1) / 8 := by
    have : (sizeLine : Nat) ≤ (2 ^ 63 - 1) / 8 := by decide
    omega
  have c0 : ¬ (!Builtin.List.listFitsIndex k) = true := by rw [fitsIndex_both h1 h2]; exact Bool.false_ne_true
  have c2 : ¬ Builtin.List.listTooLong (its.toArray.size * k.toNat) = true := by rw [notLongL size]; exact Bool.false_ne_true
  have out : List.foldl (fun x1 x2 => x1 ++ x2) #[] (List.replicate (if its.toArray.isEmpty = true then 0 else k.toNat) its.toArray) = (List.replicate k.toNat its).flatten.toArray := by
    rw [size_rep]
    cases its with
    | nil => simp
    | cons a z => rw [if_neg (by simp)]
  refine wpAny_binaryOp_repeat_ref (T := "list") (U := "int") (by decide) ⟨_, e, rfl⟩ (fun z => typeIs_int z k t) noFill_list_mul F.fills_int_mul F.slot_int_rmul repeat_list F.slot_int_index.lookup
    (call_meets F.slot_int_rmul (typeIs_int s k t) F.entry_int_rmul (F.args_int_rmul_2 _ _) (rmul_list_any k t l its.toArray n _ m4)
      ⟨e, rfl, ⟨_, e, rfl⟩, call_meets F.slot_list_mul ⟨_, e, rfl⟩ F.entry_list_mul (F.args_list_mul_2 _ _) (mul_list_any l its.toArray n _ m4 k t c0 c1 c2) ⟨e, ?_⟩⟩)
  rw [out]
  exact ⟨.ref _, _, I.lnew (t' := s.toks) (r.rep k.toNat) (by rw [PyProof.Rows.lm_len_rep_flat, Nat.mul_comm]; exact hz), rfl, q _ I.fresh⟩
end
end Py
end
section
set_option Elab.async false
set_option linter.all false
set_option maxRecDepth 100000
set_option maxHeartbeats 4000000
/-! Operations on data, second part. -/
namespace Py
open PySem PySem.Spec PyProof.Rows L2
open PySem.W (alike alikeAll dataLt dataLe AllAlike Sortable maxD minD)

def oCatL : Op
  | [.list xs, .list ys] => if xs.length + ys.length ≤ 16777216 then some (.list (xs ++ ys), true) else none
  | _ => none
def oCatT : Op
  | [.tuple xs, .tuple ys] => if xs.length + ys.length ≤ 16777216 then some (.tuple (xs ++ ys), false) else none
  | _ => none
def oRepL : Op
  | [.list xs, .int k] => if -(2 ^ 63) ≤ k ∧ k < 2 ^ 63 ∧ xs.length * k.toNat ≤ 16777216 then some (.list (List.replicate k.toNat xs).flatten, true) else none
  | _ => none
def oRepT : Op
  | [.tuple xs, .int k] => if xs ≠ [] ∧ 2 ≤ k ∧ k ≤ 1000 ∧ xs.length ≤ 1000 then some (.tuple (List.replicate k.toNat xs).flatten, false) else none
  | _ => none
section
variable {K : Fr}
theorem d_addS : OpD K (r2 fun x y H Q => ∃ i j, x = .str i ∧ y = .str j ∧ i.length + j.length ≤ sizeLine ∧ Q (.str (i ++ j)) H) oAddS := fun F H vs ds d o Q e n q k => by
  unfold oAddS at q
  split at q
  · rename_i i j
    split at q
    · rename_i c
      cases q
      obtain ⟨x, y, rfl, nx, ny⟩ := now2 n
      cases now_str nx
      cases now_str ny
      exact ⟨_, _, rfl, i, j, rfl, rfl, by rw [sizeLine_eq]; exact c, k_imm rfl k e⟩
    · cases q
  · cases q
theorem d_catL : OpD K (r2 (rCatL K)) oCatL := fun F H vs ds d o Q e n q k => by
  unfold oCatL at q
  split at q
  · rename_i i j
    split at q
    · rename_i c
      cases q
      obtain ⟨x, y, rfl, nx, ny⟩ := now2 n
      obtain ⟨a, xs, rfl, s1, r1⟩ := now_list e nx
      obtain ⟨b, ys, rfl, s2, r2⟩ := now_list e ny
      exact ⟨_, _, rfl, a, b, xs, ys, rfl, rfl, s1, s2, by rw [sizeLine_eq, r1.length, r2.length]; exact c, fun p hp => k_lst (r1.append r2) k e p hp⟩
    · cases q
  · cases q
theorem d_catT : OpD K (r2 (rCatA K)) oCatT := fun F H vs ds d o Q e n q k => by
  unfold oCatT at q
  split at q
  · rename_i i j
    split at q
    · rename_i c
      cases q
      obtain ⟨x, y, rfl, nx, ny⟩ := now2 n
      obtain ⟨a, xs, rfl, s1, r1⟩ := now_tup nx
      obtain ⟨b, ys, rfl, s2, r2⟩ := now_tup ny
      refine ⟨_, _, rfl, a, b, xs, ys, rfl, rfl, SqT.of (e _ _ s1), SqT.of (e _ _ s2), by rw [sizeLine_eq, r1.length, r2.length]; exact c, fun z => ?_, fun _ z => ?_, fun _ _ p hp => k_tup (r1.append r2) k e p hp⟩
      · subst z
        cases r1
        exact k_old (.tup s2 r2) k e
      · subst z
        cases r2
        rw [List.append_nil] at k
        exact k_old (.tup s1 r1) k e
    · cases q
  · cases q
theorem d_repL : OpD K (r2 (rRepL K)) oRepL := fun F H vs ds d o Q e n q k => by
  unfold oRepL at q
  split at q
  · rename_i i j
    split at q
    · rename_i c
      cases q
      obtain ⟨x, y, rfl, nx, ny⟩ := now2 n
      obtain ⟨a, xs, rfl, s1, r1⟩ := now_list e nx
      cases now_int ny
      exact ⟨_, _, rfl, a, j, xs, rfl, rfl, s1, c.1, c.2.1, by rw [sizeLine_eq, r1.length]; exact c.2.2, fun p hp => k_lst (r1.flat _) k e p hp⟩
    · cases q
  · cases q
theorem d_repT : OpD K (r2 (rRepT K)) oRepT := fun F H vs ds d o Q e n q k => by
  unfold oRepT at q
  split at q
  · rename_i i j
    split at q
    · rename_i c
      cases q
      obtain ⟨x, y, rfl, nx, ny⟩ := now2 n
      obtain ⟨a, xs, rfl, s1, r1⟩ := now_tup nx
      cases now_int ny
      exact ⟨_, _, rfl, a, j, xs, rfl, rfl, SqT.of (e _ _ s1), fun z => c.1 (by subst z; cases r1; rfl), c.2.1, c.2.2.1, by rw [r1.length]; exact c.2.2.2, fun p hp => k_tup (r1.flat _) k e p hp⟩
    · cases q
  · cases q
end
def oAdd : Op := oOr oAddI (oOr oAddS (oOr oCatL oCatT))
def oSub : Op := oSubI
def oMul : Op := oOr oMulI (oOr oRepL oRepT)

/-! ### comparisons -/
open SeqAt (shaped) in
def oEq : Op
  | [d, e] => if shaped d && shaped e then some (.bool (PyData.eqv d e), false) else none
  | _ => none
open SeqAt (shaped) in
def oNe : Op
  | [d, e] => if shaped d && shaped e then some (.bool (!PyData.eqv d e), false) else none
  | _ => none
def oLtI : Op := oI0 fun i j => .bool (decide (i < j))
def oLeI : Op := oI0 fun i j => .bool (decide (i ≤ j))
def oGtI : Op := oI0 fun i j => .bool (decide (j < i))
def oGeI : Op := oI0 fun i j => .bool (decide (j ≤ i))
def isNone : PyData → Bool
  | .none => true
  | _ => false
def oIsN : Op
  | [d, .none] => some (.bool (isNone d), false)
  | _ => none
def oNotN : Op
  | [d, .none] => some (.bool (!isNone d), false)
  | _ => none
def oIsB : Op
  | [.bool a, .bool b] => some (.bool (a == b), false)
  | _ => none
def oNotB : Op
  | [.bool a, .bool b] => some (.bool (!(a == b)), false)
  | _ => none
def oIs : Op := oOr oIsN oIsB
def oIsNot : Op := oOr oNotN oNotB
section
variable {K : Fr}
theorem shaped_lay {d : PyData} (h : SeqAt.shaped d = true) : d.canLay0 = true := by
  unfold SeqAt.shaped at h
  rw [Bool.and_eq_true] at h
  exact h.1
theorem d_eq : OpD K (r2 (rEqD K)) oEq := fun F H vs ds d o Q e n q k => by
  unfold oEq at q
  split at q
  · rename_i i j
    split at q
    · rename_i c
      cases q
      obtain ⟨x, y, rfl, nx, ny⟩ := now2 n
      rw [Bool.and_eq_true] at c
      exact ⟨_, _, rfl, i, j, (nx.rp e).dp (shaped_lay c.1), (ny.rp e).dp (shaped_lay c.2), c.1, c.2, k_imm rfl k e⟩
    · cases q
  · cases q
theorem d_ne : OpD K (r2 (rNeD K)) oNe := fun F H vs ds d o Q e n q k => by
  unfold oNe at q
  split at q
  · rename_i i j
    split at q
    · rename_i c
      cases q
      obtain ⟨x, y, rfl, nx, ny⟩ := now2 n
      rw [Bool.and_eq_true] at c
      exact ⟨_, _, rfl, i, j, (nx.rp e).dp (shaped_lay c.1), (ny.rp e).dp (shaped_lay c.2), c.1, c.2, k_imm rfl k e⟩
    · cases q
  · cases q
theorem now_isNone {F H : Hp} {x : V} {d : PyData} (n : Now K F H x d) : decide (x = .non) = isNone d := by
  rcases n with n | ⟨a, rfl, o⟩
  · cases n <;> rfl
  · cases o <;> rfl
theorem d_isN : OpD K (r2 fun x y H Q => y = .non ∧ Q (.bl (decide (x = .non))) H) oIsN := fun F H vs ds d o Q e n q k => by
  unfold oIsN at q
  split at q
  · rename_i i
    cases q
    obtain ⟨x, y, rfl, nx, ny⟩ := now2 n
    cases now_non ny
    exact ⟨_, _, rfl, rfl, by rw [now_isNone nx]; exact k_imm rfl k e⟩
  · cases q
theorem d_notN : OpD K (r2 fun x y H Q => y = .non ∧ Q (.bl (!decide (x = .non))) H) oNotN := fun F H vs ds d o Q e n q k => by
  unfold oNotN at q
  split at q
  · rename_i i
    cases q
    obtain ⟨x, y, rfl, nx, ny⟩ := now2 n
    cases now_non ny
    exact ⟨_, _, rfl, rfl, by rw [now_isNone nx]; exact k_imm rfl k e⟩
  · cases q
theorem d_isB : OpD K (r2 rIsB) oIsB := fun F H vs ds d o Q e n q k => by
  unfold oIsB at q
  split at q
  · rename_i a b
    cases q
    obtain ⟨x, y, rfl, nx, ny⟩ := now2 n
    cases now_bl nx
    cases now_bl ny
    refine ⟨_, _, rfl, a, b, rfl, rfl, ?_⟩
    have z : decide (a = b) = (a == b) := by cases a <;> cases b <;> rfl
    rw [z]
    exact k_imm rfl k e
  · cases q
theorem d_notB : OpD K (r2 rNotB) oNotB := fun F H vs ds d o Q e n q k => by
  unfold oNotB at q
  split at q
  · rename_i a b
    cases q
    obtain ⟨x, y, rfl, nx, ny⟩ := now2 n
    cases now_bl nx
    cases now_bl ny
    refine ⟨_, _, rfl, a, b, rfl, rfl, ?_⟩
    have z : decide (a = b) = (a == b) := by cases a <;> cases b <;> rfl
    rw [z]
    exact k_imm rfl k e
  · cases q
end

/-! ### in, indices -/
open SeqAt (shaped) in
def oInL : Op
  | [d, .list ds] => if shaped d && shaped (.list ds) then some (.bool (ds.any fun z => PyData.eqv z d), false) else none
  | _ => none
open SeqAt (shaped) in
def oNotInL : Op
  | [d, .list ds] => if shaped d && shaped (.list ds) then some (.bool (!ds.any fun z => PyData.eqv z d), false) else none
  | _ => none
def oIxL : Op
  | [.list ds, .int i] => (atI ds i).map fun d => (d, false)
  | _ => none
def oIxT : Op
  | [.tuple ds, .int i] => (atI ds i).map fun d => (d, false)
  | _ => none
def oIxS : Op
  | [.str z, .int i] => if z.length ≤ 16777216 then (atI z.cps.toList i).map fun c => (.str ⟨#[c]⟩, false) else none
  | _ => none
theorem all_at {K : Fr} {F : Hp} {xs : List V} {ds : List PyData} {i : Int} {d : PyData} (r : RpAll K F xs ds) (h : atI ds i = some d) : ∃ v, atI xs i = some v ∧ Rp K F v d := by
  unfold atI at h ⊢
  rw [r.length]
  cases z : ixN ds.length i with
  | none => rw [z] at h; cases h
  | some j =>
    rw [z] at h
    exact r.getD h
section
variable {K : Fr}
theorem d_inL : OpD K (r2 (rInD K)) oInL := fun F H vs ds d o Q e n q k => by
  unfold oInL at q
  split at q
  · rename_i i j
    split at q
    · rename_i c
      cases q
      obtain ⟨x, y, rfl, nx, ny⟩ := now2 n
      rw [Bool.and_eq_true] at c
      exact ⟨_, _, rfl, i, j, (nx.rp e).dp (shaped_lay c.1), (ny.rp e).dp (shaped_lay c.2), c.1, c.2, k_imm rfl k e⟩
    · cases q
  · cases q
theorem d_notInL : OpD K (r2 (rNotInD K)) oNotInL := fun F H vs ds d o Q e n q k => by
  unfold oNotInL at q
  split at q
  · rename_i i j
    split at q
    · rename_i c
      cases q
      obtain ⟨x, y, rfl, nx, ny⟩ := now2 n
      rw [Bool.and_eq_true] at c
      exact ⟨_, _, rfl, i, j, (nx.rp e).dp (shaped_lay c.1), (ny.rp e).dp (shaped_lay c.2), c.1, c.2, k_imm rfl k e⟩
    · cases q
  · cases q
theorem d_ixL : OpD K (r2 (rIxL K)) oIxL := fun F H vs ds d o Q e n q k => by
  unfold oIxL at q
  split at q
  · rename_i i j
    obtain ⟨d', q1, q2⟩ := Option.map_eq_some_iff.mp q
    cases q2
    obtain ⟨x, y, rfl, nx, ny⟩ := now2 n
    obtain ⟨a, xs, rfl, s1, r1⟩ := now_list e nx
    cases now_int ny
    obtain ⟨v, hv, rv⟩ := all_at r1 q1
    exact ⟨_, _, rfl, a, xs, j, v, rfl, rfl, s1, hv, k_old rv k e⟩
  · cases q
theorem d_ixT : OpD K (r2 (rIxT K)) oIxT := fun F H vs ds d o Q e n q k => by
  unfold oIxT at q
  split at q
  · rename_i i j
    obtain ⟨d', q1, q2⟩ := Option.map_eq_some_iff.mp q
    cases q2
    obtain ⟨x, y, rfl, nx, ny⟩ := now2 n
    obtain ⟨a, xs, rfl, s1, r1⟩ := now_tup nx
    cases now_int ny
    obtain ⟨v, hv, rv⟩ := all_at r1 q1
    exact ⟨_, _, rfl, a, xs, j, v, rfl, rfl, SqT.of (e _ _ s1), hv, k_old rv k e⟩
  · cases q
theorem d_ixS : OpD K (r2 rIxS) oIxS := fun F H vs ds d o Q e n q k => by
  unfold oIxS at q
  split at q
  · rename_i z j
    split at q
    · rename_i c
      obtain ⟨d', q1, q2⟩ := Option.map_eq_some_iff.mp q
      cases q2
      obtain ⟨x, y, rfl, nx, ny⟩ := now2 n
      cases now_str nx
      cases now_int ny
      exact ⟨_, _, rfl, z, j, d', rfl, rfl, by rw [sizeLine_eq]; exact c, q1, k_imm rfl k e⟩
    · cases q
  · cases q
end

/-! ### built-in functions of one thing -/
def oLenQ : Op
  | [.list ds] => some (.int ds.length, false)
  | [.tuple ds] => some (.int ds.length, false)
  | _ => none
def oLenS : Op
  | [.str z] => if z.length ≤ 16777216 then some (.int z.length, false) else none
  | _ => none
def oAbs : Op
  | [.int i] => some (.int (if i < 0 then -i else i), false)
  | _ => none
def oInt1 : Op
  | [.int i] => some (.int i, false)
  | [.bool b] => some (.int (if b then 1 else 0), false)
  | _ => none
def oList : Op
  | [.list ds] => some (.list ds, true)
  | [.tuple ds] => some (.list ds, true)
  | _ => none
def oTuple : Op
  | [.list ds] => some (.tuple ds, false)
  | [.tuple ds] => some (.tuple ds, false)
  | _ => none
section
variable {K : Fr}
theorem d_lenQ : OpD K (fun xs H Q => ∃ p ys, xs = [.ref p] ∧ (SqL K H p ys ∨ SqT K H p ys) ∧ Q (.int ys.length) H) oLenQ := fun F H vs ds d o Q e n q k => by
  unfold oLenQ at q
  split at q
  · cases q
    obtain ⟨x, rfl, nx⟩ := now1 n
    obtain ⟨a, xs, rfl, s1, r1⟩ := now_list e nx
    exact ⟨a, xs, rfl, .inl s1, by rw [r1.length]; exact k_imm rfl k e⟩
  · cases q
    obtain ⟨x, rfl, nx⟩ := now1 n
    obtain ⟨a, xs, rfl, s1, r1⟩ := now_tup nx
    exact ⟨a, xs, rfl, .inr (SqT.of (e _ _ s1)), by rw [r1.length]; exact k_imm rfl k e⟩
  · cases q
theorem d_lenS : OpD K (fun xs H Q => ∃ z, xs = [.str z] ∧ z.length ≤ sizeLine ∧ Q (.int z.length) H) oLenS := fun F H vs ds d o Q e n q k => by
  unfold oLenS at q
  split at q
  · split at q
    · rename_i c
      cases q
      obtain ⟨x, rfl, nx⟩ := now1 n
      cases now_str nx
      exact ⟨_, rfl, by rw [sizeLine_eq]; exact c, k_imm rfl k e⟩
    · cases q
  · cases q
theorem d_abs : OpD K (fun xs H Q => ∃ i, xs = [.int i] ∧ Q (.int (if i < 0 then -i else i)) H) oAbs := fun F H vs ds d o Q e n q k => by
  unfold oAbs at q
  split at q
  · cases q
    obtain ⟨x, rfl, nx⟩ := now1 n
    cases now_int nx
    exact ⟨_, rfl, k_imm rfl k e⟩
  · cases q
theorem d_int1 : OpD K (fun xs H Q => (∃ i, xs = [.int i] ∧ Q (.int i) H) ∨ ∃ k, xs = [.bl k] ∧ Q (.int (if k then 1 else 0)) H) oInt1 := fun F H vs ds d o Q e n q k => by
  unfold oInt1 at q
  split at q
  · cases q
    obtain ⟨x, rfl, nx⟩ := now1 n
    cases now_int nx
    exact .inl ⟨_, rfl, k_imm rfl k e⟩
  · cases q
    obtain ⟨x, rfl, nx⟩ := now1 n
    cases now_bl nx
    exact .inr ⟨_, rfl, k_imm rfl k e⟩
  · cases q
theorem d_list : OpD K (fun xs H Q => ∃ p ys, xs = [.ref p] ∧ (SqL K H p ys ∨ SqT K H p ys) ∧ ∀ l, H l = none → Q (.ref l) (upd H l (.lst ys))) oList := fun F H vs ds d o Q e n q k => by
  unfold oList at q
  split at q
  · cases q
    obtain ⟨x, rfl, nx⟩ := now1 n
    obtain ⟨a, xs, rfl, s1, r1⟩ := now_list e nx
    exact ⟨a, xs, rfl, .inl s1, fun p hp => k_lst r1 k e p hp⟩
  · cases q
    obtain ⟨x, rfl, nx⟩ := now1 n
    obtain ⟨a, xs, rfl, s1, r1⟩ := now_tup nx
    exact ⟨a, xs, rfl, .inr (SqT.of (e _ _ s1)), fun p hp => k_lst r1 k e p hp⟩
  · cases q
theorem d_tuple : OpD K (fun xs H Q => ∃ p ys, xs = [.ref p] ∧ ((SqL K H p ys ∧ ∀ l, H l = none → Q (.ref l) (upd H l (.tup ys))) ∨ (SqT K H p ys ∧ Q (.ref p) H))) oTuple := fun F H vs ds d o Q e n q k => by
  unfold oTuple at q
  split at q
  · cases q
    obtain ⟨x, rfl, nx⟩ := now1 n
    obtain ⟨a, xs, rfl, s1, r1⟩ := now_list e nx
    exact ⟨a, xs, rfl, .inl ⟨s1, fun p hp => k_tup r1 k e p hp⟩⟩
  · cases q
    obtain ⟨x, rfl, nx⟩ := now1 n
    obtain ⟨a, xs, rfl, s1, r1⟩ := now_tup nx
    exact ⟨a, xs, rfl, .inr ⟨SqT.of (e _ _ s1), k_old (.tup s1 r1) k e⟩⟩
  · cases q
end
end Py
end
section
set_option Elab.async false
set_option linter.all false
set_option maxRecDepth 100000
set_option maxHeartbeats 4000000
/-! Operations on data, third part: sums, greatest, order, sets, kinds. -/
namespace Py
open PySem PySem.Spec PyProof.Rows L2
open PySem.W (alike alikeAll dataLt dataLe AllAlike Sortable maxD minD)

def ints? : List PyData → Option (List Int)
  | [] => some []
  | .int i :: r => (ints? r).map (i :: ·)
  | _ :: _ => none
@[simp] theorem ints?_map (ns : List Int) : ints? (ns.map .int) = some ns := by
  induction ns with
  | nil => rfl
  | cons i r h => simp [ints?, h]
theorem ints?_eq : ∀ {ds : List PyData} {ns : List Int}, ints? ds = some ns → ds = ns.map .int
  | [], ns, h => by cases h; rfl
  | .int i :: r, ns, h => by
    obtain ⟨z, h1, h2⟩ := Option.map_eq_some_iff.mp h
    cases h2
    rw [ints?_eq h1]; rfl
  | .none :: _, _, h => by cases h
  | .bool _ :: _, _, h => by cases h
  | .str _ :: _, _, h => by cases h
  | .list _ :: _, _, h => by cases h
  | .tuple _ :: _, _, h => by cases h
  | .dict _ :: _, _, h => by cases h
/-- the members of a list or tuple of numbers -/
def intsOf : PyData → Option (List Int)
  | .list ds => ints? ds
  | .tuple ds => ints? ds
  | _ => none
def SqI (K : Fr) (H : Hp) (a : Addr) (ns : List Int) : Prop := SqL K H a (ns.map V.int) ∨ SqT K H a (ns.map V.int)
theorem now_ints {K : Fr} {F H : Hp} {v : V} {d : PyData} {ns : List Int} (e : Ext F H) (n : Now K F H v d) (h : intsOf d = some ns) : ∃ a, v = .ref a ∧ SqI K H a ns := by
  unfold intsOf at h
  split at h
  · have := ints?_eq h
    subst this
    obtain ⟨a, xs, rfl, s, r⟩ := now_list e n
    cases r.ints
    exact ⟨a, rfl, .inl s⟩
  · have := ints?_eq h
    subst this
    obtain ⟨a, xs, rfl, s, r⟩ := now_tup n
    cases r.ints
    exact ⟨a, rfl, .inr (SqT.of (e _ _ s))⟩
  · cases h
def oSum : Op
  | [d] => (intsOf d).map fun ns => (.int ns.sum, false)
  | _ => none
def oMax : Op
  | [d] => match intsOf d with
    | some (n :: ns) => some (.int (ns.foldl max n), false)
    | _ => none
  | _ => none
def oMin : Op
  | [d] => match intsOf d with
    | some (n :: ns) => some (.int (ns.foldl min n), false)
    | _ => none
  | _ => none
def oMax2 : Op
  | [.int i, .int j] => some (.int (if j > i then j else i), false)
  | _ => none
def oMin2 : Op
  | [.int i, .int j] => some (.int (if j < i then j else i), false)
  | _ => none
def rSumQ (K : Fr) : List V → Hp → VK → Prop := fun xs H Q => ∃ a ns, xs = [.ref a] ∧ SqI K H a ns ∧ Q (.int ns.sum) H
def rMaxQ (K : Fr) : List V → Hp → VK → Prop := fun xs H Q => ∃ a n ns, xs = [.ref a] ∧ SqI K H a (n :: ns) ∧ Q (.int (ns.foldl max n)) H
def rMinQ (K : Fr) : List V → Hp → VK → Prop := fun xs H Q => ∃ a n ns, xs = [.ref a] ∧ SqI K H a (n :: ns) ∧ Q (.int (ns.foldl min n)) H
theorem alike_int (ns : List Int) : PySem.W.AlikeAll (ns.map .int) := by
  refine ⟨fun x hx y hy => ?_, fun x hx => ?_⟩
  · obtain ⟨_, _, rfl⟩ := List.mem_map.mp hx
    obtain ⟨_, _, rfl⟩ := List.mem_map.mp hy
    rfl
  · obtain ⟨_, _, rfl⟩ := List.mem_map.mp hx
    exact fun z => (by cases z)
theorem reads_ints {h : Heap} : ∀ {vs : List Value} {ns : List Int}, IntsAre vs ns → ∃ as, ReadsAll h vs (ns.map .int) as
  | _, _, .nil => ⟨_, .nil⟩
  | _, _, .cons n t r => let ⟨as, z⟩ := reads_ints r; ⟨_, .cons (.int n t) z⟩
section
variable {X : Cx}
theorem run_sum (hc : X.calm = true) : CallR X (.builtin "sum") (rSumQ X.K) := by
  intro pins s σ H vs us Q I r h
  obtain ⟨a, ns, rfl, hs | hs, q⟩ := h
  · exact cr_sum hc pins s σ H _ us Q I r ⟨a, ns, rfl, hs, q⟩
  · obtain ⟨its, rv, ht, _⟩ := I.tuple hs
    rw [Vals.ref1 r]
    have hi := rv.ints
    refine PySem.call_sum_walkAnyS (PySem.W.iter_tupleW (A := X.A.in1) (I.ok.hd hc) ht fun s₂ e W st hfp hw hk => ?_)
    refine ⟨_, _, _, _, _, _, _, fun i => ns.getD i 0, rfl, W, st, hfp, fun i v hv => ?_, fun s' t' m => ?_⟩
    · obtain ⟨t, z⟩ := PyProof.Rows.IntsAre.int_at hi i v (by simpa using hv)
      exact ⟨t, z⟩
    · obtain ⟨h', tk, rfl, hk'⟩ := PySem.W.moved_old e rfl m
      rw [preSum_getD, show its.toArray.size = ns.length by rw [List.size_toArray, ← rv.length, List.length_map], List.take_length]
      exact ⟨.int _, H, I.kept hk', ⟨_, rfl⟩, q⟩
theorem run_max (hc : X.calm = true) (hu : X.A.units + 64 < cLine) : CallR X (.builtin "max") (rMaxQ X.K) := by
  intro pins s σ H vs us Q I r h
  obtain ⟨a, n, ns, rfl, hs, q⟩ := h
  rw [Vals.ref1 r]
  have fin : ∀ (i : Nat) v h' tk bs, Reads h' v (maxD (.int n) (ns.map .int)) bs → (∀ b o, s.heap.get? b = some o → h'.get? b = some o) → ∃ x H', Inv X pins σ H' { s with heap := h', toks := tk } ∧ RelV x v ∧ Q x H' := fun i v h' tk bs rd hk => by
    rw [PySem.W.maxD_ints] at rd
    cases rd with | int _ t => exact ⟨.int _, H, I.kept hk, ⟨_, rfl⟩, q⟩
  have hd : X.A.units + 1 + PyData.depthAll (.int n :: ns.map .int) < cLine := by
    have := PySem.W.depth_ints (n :: ns)
    rw [List.map_cons] at this
    rw [this]; omega
  rcases hs with hs | hs
  · obtain ⟨its, rv, hl, _⟩ := I.list hs
    obtain ⟨as, rd⟩ := reads_ints (h := s.heap) rv.ints
    exact PySem.W.max_list_data (I.ok.hd hc) hl.isList rd (alike_int (n :: ns)) hd fun i v h' tk bs _ rd hk => fin i v h' tk bs rd hk
  · obtain ⟨its, rv, hl, _⟩ := I.tuple hs
    obtain ⟨as, rd⟩ := reads_ints (h := s.heap) rv.ints
    exact PySem.W.max_tuple_data (I.ok.hd hc) hl rd (alike_int (n :: ns)) hd fun i v h' tk bs _ rd hk => fin i v h' tk bs rd hk
theorem run_min (hc : X.calm = true) (hu : X.A.units + 64 < cLine) : CallR X (.builtin "min") (rMinQ X.K) := by
  intro pins s σ H vs us Q I r h
  obtain ⟨a, n, ns, rfl, hs, q⟩ := h
  rw [Vals.ref1 r]
  have fin : ∀ (i : Nat) v h' tk bs, Reads h' v (minD (.int n) (ns.map .int)) bs → (∀ b o, s.heap.get? b = some o → h'.get? b = some o) → ∃ x H', Inv X pins σ H' { s with heap := h', toks := tk } ∧ RelV x v ∧ Q x H' := fun i v h' tk bs rd hk => by
    rw [PySem.W.minD_ints] at rd
    cases rd with | int _ t => exact ⟨.int _, H, I.kept hk, ⟨_, rfl⟩, q⟩
  have hd : X.A.units + 1 + PyData.depthAll (.int n :: ns.map .int) < cLine := by
    have := PySem.W.depth_ints (n :: ns)
    rw [List.map_cons] at this
    rw [this]; omega
  rcases hs with hs | hs
  · obtain ⟨its, rv, hl, _⟩ := I.list hs
    obtain ⟨as, rd⟩ := reads_ints (h := s.heap) rv.ints
    exact PySem.W.min_list_data (I.ok.hd hc) hl.isList rd (alike_int (n :: ns)) hd fun i v h' tk bs _ rd hk => fin i v h' tk bs rd hk
  · obtain ⟨its, rv, hl, _⟩ := I.tuple hs
    obtain ⟨as, rd⟩ := reads_ints (h := s.heap) rv.ints
    exact PySem.W.min_tuple_data (I.ok.hd hc) hl rd (alike_int (n :: ns)) hd fun i v h' tk bs _ rd hk => fin i v h' tk bs rd hk
end
section
variable {K : Fr}
theorem d_sum : OpD K (rSumQ K) oSum := fun F H vs ds d o Q e n q k => by
  unfold oSum at q
  split at q
  · obtain ⟨ns, q1, q2⟩ := Option.map_eq_some_iff.mp q
    cases q2
    obtain ⟨x, rfl, nx⟩ := now1 n
    obtain ⟨a, rfl, s⟩ := now_ints e nx q1
    exact ⟨a, ns, rfl, s, k_imm rfl k e⟩
  · cases q
theorem d_max : OpD K (rMaxQ K) oMax := fun F H vs ds d o Q e n q k => by
  unfold oMax at q
  split at q
  · split at q
    · rename_i i ns z
      cases q
      obtain ⟨x, rfl, nx⟩ := now1 n
      obtain ⟨a, rfl, s⟩ := now_ints e nx z
      exact ⟨a, i, ns, rfl, s, k_imm rfl k e⟩
    · cases q
  · cases q
theorem d_min : OpD K (rMinQ K) oMin := fun F H vs ds d o Q e n q k => by
  unfold oMin at q
  split at q
  · split at q
    · rename_i i ns z
      cases q
      obtain ⟨x, rfl, nx⟩ := now1 n
      obtain ⟨a, rfl, s⟩ := now_ints e nx z
      exact ⟨a, i, ns, rfl, s, k_imm rfl k e⟩
    · cases q
  · cases q
theorem d_max2 : OpD K (fun xs H Q => ∃ i j, xs = [.int i, .int j] ∧ Q (.int (if j > i then j else i)) H) oMax2 := fun F H vs ds d o Q e n q k => by
  unfold oMax2 at q
  split at q
  · cases q
    obtain ⟨x, y, rfl, nx, ny⟩ := now2 n
    cases now_int nx
    cases now_int ny
    exact ⟨_, _, rfl, k_imm rfl k e⟩
  · cases q
theorem d_min2 : OpD K (fun xs H Q => ∃ i j, xs = [.int i, .int j] ∧ Q (.int (if j < i then j else i)) H) oMin2 := fun F H vs ds d o Q e n q k => by
  unfold oMin2 at q
  split at q
  · cases q
    obtain ⟨x, y, rfl, nx, ny⟩ := now2 n
    cases now_int nx
    cases now_int ny
    exact ⟨_, _, rfl, k_imm rfl k e⟩
  · cases q
end

/-! ### sorted -/
def seqOf : PyData → Option (List PyData)
  | .list ds => some ds
  | .tuple ds => some ds
  | _ => none
/-- what sorted can order: like things, not too deep -/
def SortOk (ds : List PyData) : Prop := AllAlike ds ∧ Sortable ds ∧ PyData.canLayAll0 ds = true ∧ ∀ d ∈ ds, d.depth ≤ 60
def sortD (ds : List PyData) : List PyData := ds.mergeSort (dataLe false id)
def isT1 : PyData → Bool
  | .tuple (_ :: _) => true
  | _ => false
def isNT : PyData → Bool
  | .none => false
  | .tuple _ => false
  | _ => true
def sortOkB (ds : List PyData) : Bool := (ds.all fun a => ds.all fun b => alike a b) && (ds.all isT1 || ds.all isNT) && PyData.canLayAll0 ds && ds.all fun d => decide (d.depth ≤ 60)
theorem sortOk_of {ds : List PyData} (h : sortOkB ds = true) : SortOk ds := by
  unfold sortOkB at h
  rw [Bool.and_eq_true, Bool.and_eq_true, Bool.and_eq_true, Bool.or_eq_true] at h
  obtain ⟨⟨⟨h1, h2⟩, h3⟩, h4⟩ := h
  refine ⟨fun a ha b hb => ?_, ?_, h3, fun d hd => by simpa using List.all_eq_true.mp h4 d hd⟩
  · exact List.all_eq_true.mp (List.all_eq_true.mp h1 a ha) b hb
  · rcases h2 with h2 | h2
    · refine .inl fun d hd => ?_
      have := List.all_eq_true.mp h2 d hd
      unfold isT1 at this
      split at this
      · exact ⟨_, _, rfl⟩
      · cases this
    · refine .inr fun d hd => ?_
      have := List.all_eq_true.mp h2 d hd
      unfold isNT at this
      split at this
      · cases this
      · cases this
      · rename_i z1 z2
        exact ⟨z1, fun xs z => z2 xs z⟩
def oSorted : Op
  | [.list ds] => if sortOkB ds then some (.list (sortD ds), true) else none
  | _ => none
def rSortD (K : Fr) : List V → Hp → VK → Prop := fun vs H Q => ∃ F a xs ds, vs = [.ref a] ∧ SqL K H a xs ∧ Ext F H ∧ RpAll K F xs ds ∧ SortOk ds ∧ ∀ p ys, H p = none → RpAll K F ys (sortD ds) → Q (.ref p) (upd H p (.lst ys))
theorem each_of {K : Fr} {F : Hp} {R : Value → PyData → Prop} : ∀ {xs : List V} {its : List Value} {ds : List PyData}, Vals xs its → RpAll K F xs ds → (∀ x u d, RelV x u → Rp K F x d → d ∈ ds → R u d) → PySem.W.EachIs R its ds
  | _, _, _, .nil, .nil, _ => .nil
  | _, _, _, .cons r rs, .cons p ps, h => .cons (h _ _ _ r p List.mem_cons_self) (each_of rs ps fun x u d a b c => h x u d a b (List.mem_cons_of_mem _ c))
theorem of_each {K : Fr} {F : Hp} : ∀ {its : List Value} {ds : List PyData}, PySem.W.EachIs (fun u d => ∃ x, RelV x u ∧ Rp K F x d) its ds → ∃ xs, Vals xs its ∧ RpAll K F xs ds
  | _, _, .nil => ⟨[], .nil, .nil⟩
  | _, _, .cons ⟨x, r, p⟩ h => let ⟨xs, a, b⟩ := of_each h; ⟨x :: xs, .cons r a, .cons p b⟩
theorem lay_mem : ∀ {ds : List PyData} {d : PyData}, PyData.canLayAll0 ds = true → d ∈ ds → d.canLay0 = true
  | d' :: ds, d, h, m => by
    rw [PyData.canLayAll0, Bool.and_eq_true] at h
    rcases List.mem_cons.mp m with rfl | m
    · exact h.1
    · exact lay_mem h.2 m
section
variable {X : Cx}
theorem run_sorted (hu : X.A.units + 64 < cLine) : CallR X (.builtin "sorted") (rSortD X.K) := by
  intro pins s σ H vs us Q I r h
  obtain ⟨F, a, xs, ds, rfl, hs, hF, ra, ⟨k1, k2, k3, k4⟩, q⟩ := h
  obtain ⟨its, rv, hl, hz⟩ := I.list hs
  rw [Vals.ref1 r]
  have hlen := ra.length
  refine PySem.W.sorted_data (enc := id) (R := fun u d => ∃ x, RelV x u ∧ Rp X.K F x d) hl.isList (each_of rv ra fun x u d a b _ => ⟨x, a, b⟩) (each_of rv ra fun x u d a b m => ?_) (by rw [List.map_id]; exact k1) (by rw [List.map_id]; exact k2) (by omega) (fun d m => by have := k4 d m; show X.A.units + 2 + d.depth < _; omega) fun out ho e => ?_
  · exact Dp.reads I d x u ((b.ext hF).dp (lay_mem k3 m)) a
  · obtain ⟨ys, v1, v2⟩ := of_each e
    obtain ⟨ep, he'⟩ := PyProof.Rows.sortedAll_at s.heap its out.toArray
    have hl2 : ys.length ≤ sizeLine := by rw [v1.length, ho]; omega
    exact ⟨.ref _, upd H (s.heap.objs.size + 1) (.lst ys), I.laid (t' := s.toks) (fun _ _ => PyProof.Rows.sortedAll_old) (Nat.le_succ _) ⟨hl2, out, ep, v1, he'⟩, rfl, q _ ys (I.hok.fresh (Nat.le_succ _)) v2⟩
end
theorem d_sorted {K : Fr} : OpD K (rSortD K) oSorted := fun F H vs ds d o Q e n q k => by
  unfold oSorted at q
  split at q
  · split at q
    · rename_i c
      cases q
      obtain ⟨x, rfl, nx⟩ := now1 n
      obtain ⟨a, xs, rfl, s1, r1⟩ := now_list e nx
      exact ⟨F, a, xs, _, rfl, s1, e, r1, sortOk_of c, fun p ys hp r => k_lst r k e p hp⟩
    · cases q
  · cases q
end Py
end
section
set_option Elab.async false
set_option linter.all false
set_option maxRecDepth 100000
set_option maxHeartbeats 4000000
/-! sorted(t) of a tuple. -/
namespace Py
open PySem PySem.Spec PyProof.Rows L2
open PySem.W (alike alikeAll dataLt dataLe AllAlike Sortable maxD minD copyHeap copyHeap_at)
section
variable {prog : Program} {w : World} {A : Around} {E : Value → Shared → Prop} {s : Shared}
theorem gather_tup {t : Addr} {us : List Value} {Q : List Value → Shared → Prop} (ht : IsTup s.heap t us.toArray) (hz : us.length ≤ sizeLine)
    (q : Q us { s with heap := (s.heap.push (seqObj "list" #[] 0)).update s.heap.objs.size (Obj.mapSeq (· ++ us.toArray)) }) : wpAny (model prog w) A (collect (.ref t)) Q E s := by
  obtain ⟨ob, e0, ec, m, ed⟩ := id ht
  unfold collect
  refine wpAny_bind (wpAny_runValue (codeAny_builtin entry_proto_collect' ?_))
  show wpAny _ _ (do again (.builtin "list.__iadd__" ⟨[← newList [], .ref t], []⟩)) _ _ s
  refine wpAny_bind (wpAny_newList (wpAny_pure ⟨Code.quiet_builtin _ (by decide +kernel), codeAny_builtin entry_list_iadd' ?_⟩))
  show wpAny _ _ (Builtin.List.listExtendWith (.ref s.heap.objs.size) (.ref t) (.ref s.heap.objs.size)) _ _ { s with heap := s.heap.push (seqObj "list" #[] 0) }
  unfold Builtin.List.listExtendWith
  have e1 : (s.heap.push (seqObj "list" #[] 0)).get? t = some ob := Heap.get?_push_of_some _ e0
  refine wpAny_bind (wpAny_typeOf (T := "tuple") ⟨ob, e1, ec⟩ ?_)
  have tt : (Value.type "tuple" == Value.type "tuple") = true := by rfl
  rw [if_pos (by rw [tt]; simp)]
  refine wpAny_bind (listItems_at e1 ed ?_)
  refine wpAny_bind (listItems_at (xs := #[]) (n := 0) (Heap.get?_push_size _ rfl) rfl ?_)
  rw [if_neg (by simp)]
  refine wpAny_bind (listUpdate_at (xs := #[]) (n := 0) (Heap.get?_push_size _ rfl) rfl ?_ (Nat.zero_le _) (by show (#[] ++ us.toArray).size ≤ sizeLine + 1; simp only [Array.size_append, List.size_toArray, List.length_nil]; omega))
  refine wpAny_pure ?_
  show wpAny (model prog w) A (do
      let z ← load s.heap.objs.size
      match z.data with
      | .seq xs _ => pure xs.toList
      | _ => unsupported "internal:collect") Q E { s with heap := (s.heap.push (seqObj "list" #[] 0)).update s.heap.objs.size (Obj.mapSeq (· ++ us.toArray)) }
  refine wpAny_bind (wpAny_load (get?_update_seq (Heap.get?_push_size _ rfl) _) ?_)
  show wpAny _ _ (pure ((#[] : Array Value) ++ us.toArray).toList) Q E _
  rw [show ((#[] : Array Value) ++ us.toArray).toList = us by simp]
  exact wpAny_pure q
theorem sorted_tup {t : Addr} {us : List Value} {ds : List PyData} {R : Value → PyData → Prop} {Q : Value → Shared → Prop} (ht : IsTup s.heap t us.toArray) (e : PySem.W.EachIs R us ds) (er : PySem.W.EachIs (fun v b => ∃ as, Reads s.heap v b as) us ds) (hal : AllAlike ds) (hk : Sortable ds) (hL : ds.length ≤ sizeLine)
    (hu : ∀ b, b ∈ ds → A.units + 2 + b.depth < cLine) (h : ∀ out, out.length = ds.length → PySem.W.EachIs R out (ds.mergeSort (dataLe false id)) → Q (.ref (s.heap.objs.size + 1)) { s with heap := sortedAll s.heap us (List.toArray out) }) :
    wpAny (model prog w) A (call (.builtin "sorted") [.ref t]) Q E s := by
  have el := e.length
  refine PyProof.Rows.call_function_entry_kw kind_sorted plain_sorted entry_sorted (args_sorted1 _) ?_
  unfold Builtin.«sorted»
  refine wpAny_bind (m := checkCount "sorted" 1 1 _) (wpAny_pure ?_)
  refine wpAny_bind (gather_tup ht (by omega) ?_)
  refine wpAny_bind (wpAny_newList ?_ (by omega))
  have sz : ((s.heap.push (seqObj "list" #[] 0)).update s.heap.objs.size (Obj.mapSeq (· ++ us.toArray))).objs.size = s.heap.objs.size + 1 := by
    rw [Heap.size_update, size_push']
  show wpAny _ _ _ _ _ { s with heap := copyHeap s.heap us }
  rw [sz]
  refine wpAny_bind (wpAny_holding (wpAny_call_entry_kw slot_list_sort ⟨_, copyHeap_at s.heap us, rfl⟩ entry_list_sort ?body (args_list_sort _)))
  case body =>
    show wpAny (model prog w) A.in1.in1 (Builtin.«list.sort» ⟨[.ref (s.heap.objs.size + 1)], []⟩) _ _ _
    have er' : PySem.W.EachIs (fun v b => ∃ as, Reads (PySem.W.sortingHeap (copyHeap s.heap us) (s.heap.objs.size + 1) us) v b as) us ds := er.mono fun _ _ ⟨as, r⟩ => ⟨as, PyProof.Rows.Reads.keeps (fun _ _ => PySem.W.sorting_copy_old) r⟩
    refine wpAny_mono (PySem.W.list_sort_vals (s := { s with heap := copyHeap s.heap us }) (copyHeap_at s.heap us) (PySem.W.SortsAt.data (A := A.in1.in1) (s := { s with heap := PySem.W.sortingHeap (copyHeap s.heap us) (s.heap.objs.size + 1) us }) er' hal hk hu) (by omega) (P := fun f s' => f = .done (.ret .none) ∧ Q (.ref (s.heap.objs.size + 1)) s') ⟨rfl, ?_⟩) (fun f s' hf => ?_) fun _ _ e => e
    · have sv := PySem.W.sortVals_data (enc := id) (bs := ds) false e er' (by rw [List.map_id]; exact hal)
      rw [List.map_id] at sv
      exact h _ (by rw [PySem.W.sortVals_length false rfl]; exact el) sv
    · obtain ⟨rfl, hq⟩ := hf
      exact ⟨_, rfl, wpAny_pure ⟨_, rfl, hq⟩⟩
end
def oSortT : Op
  | [.tuple ds] => if sortOkB ds then some (.list (sortD ds), true) else none
  | _ => none
def rSortT (K : Fr) : List V → Hp → VK → Prop := fun vs H Q => ∃ F a xs ds, vs = [.ref a] ∧ SqT K H a xs ∧ Ext F H ∧ RpAll K F xs ds ∧ SortOk ds ∧ ∀ p ys, H p = none → RpAll K F ys (sortD ds) → Q (.ref p) (upd H p (.lst ys))
section
variable {X : Cx}
theorem run_sortT (hu : X.A.units + 64 < cLine) : CallR X (.builtin "sorted") (rSortT X.K) := by
  intro pins s σ H vs us Q I r h
  obtain ⟨F, a, xs, ds, rfl, hs, hF, ra, ⟨k1, k2, k3, k4⟩, q⟩ := h
  obtain ⟨its, rv, ht, hz⟩ := I.tuple hs
  rw [Vals.ref1 r]
  have hlen := ra.length
  refine sorted_tup (R := fun u d => ∃ x, RelV x u ∧ Rp X.K F x d) ht (each_of rv ra fun x u d a b _ => ⟨x, a, b⟩) (each_of rv ra fun x u d a b m => ?_) k1 k2 (by omega) (fun d m => by have := k4 d m; omega) fun out ho e => ?_
  · exact Dp.reads I d x u ((b.ext hF).dp (lay_mem k3 m)) a
  · obtain ⟨ys, v1, v2⟩ := of_each e
    obtain ⟨ep, he'⟩ := PyProof.Rows.sortedAll_at s.heap its out.toArray
    have hl2 : ys.length ≤ sizeLine := by rw [v1.length, ho]; omega
    exact ⟨.ref _, upd H (s.heap.objs.size + 1) (.lst ys), I.laid (t' := s.toks) (fun _ _ => PyProof.Rows.sortedAll_old) (Nat.le_succ _) ⟨hl2, out, ep, v1, he'⟩, rfl, q _ ys (I.hok.fresh (Nat.le_succ _)) v2⟩
end
theorem d_sortT {K : Fr} : OpD K (rSortT K) oSortT := fun F H vs ds d o Q e n q k => by
  unfold oSortT at q
  split at q
  · split at q
    · rename_i c
      cases q
      obtain ⟨x, rfl, nx⟩ := now1 n
      obtain ⟨a, xs, rfl, s1, r1⟩ := now_tup nx
      exact ⟨F, a, xs, _, rfl, SqT.of (e _ _ s1), e, r1, sortOk_of c, fun p ys hp r => k_lst r k e p hp⟩
    · cases q
  · cases q
end Py
end
section
set_option Elab.async false
set_option linter.all false
set_option maxRecDepth 100000
set_option maxHeartbeats 4000000
/-! Methods, changes of lists and dicts. -/
namespace Py
open PySem PySem.Spec PyProof.Rows L2

theorem muT_iff {t : Tg} (h : muT t = true) : t = .own ∨ t = .io := by
  cases t
  · cases h
  · exact .inl rfl
  · exact .inr rfl
  · cases h
section
variable {K : Fr} {T : List Addr} {W : WX}
theorem now_ty {G F : Hp} {L : List (Nat × Addr)} {σ : L2.St} {H : Hp} {e : Nv} {v : V} {d : PyData} {t : String} (x : Ext F H) (n : Now K F H v d) (h : tyD t d = true) : tyV K t v H := by
  unfold tyD at h
  split at h
  · cases now_str n; rfl
  · obtain ⟨a, xs, rfl, s, _⟩ := now_list x n
    exact .inl ⟨rfl, xs, s⟩
  · rcases n with n | ⟨a, rfl, o⟩
    · cases n with
      | dK s r k => exact .inr (.inr (.inl ⟨rfl, .inl ⟨_, x _ _ s⟩⟩))
      | dT s r k => exact .inr (.inr (.inl ⟨rfl, .inr ⟨_, x _ _ s⟩⟩))
    · cases o with
      | dK s r k => exact .inr (.inr (.inl ⟨rfl, .inl ⟨_, s⟩⟩))
      | dT s r k => exact .inr (.inr (.inl ⟨rfl, .inr ⟨_, s⟩⟩))
  · cases h
/-- a change of an object -/
def MtD (K : Fr) (r : V → List V → Hp → VK → Prop) (h : Mt) : Prop := ∀ (F H : Hp) (a : Addr) (c : PyData) (vs : List V) (ds : List PyData) (c' d : PyData) (Q : VK), Ext F H → Ob K F H a c → F a = none → RpAll K F vs ds → h c ds = some (c', d) →
  (∀ v u, Ob K F (upd H a u) a c' → Rp K F v d → Q v (upd H a u)) → r (.ref a) vs H Q
theorem mt_ok {r : V → List V → Hp → VK → Prop} {h : Mt} (o : MtD K r h) {t : String} {i : Nat} {fs : List EV} {σ : L2.St} {H : Hp} {Q : VK} (q : tE K T W (eMt t i h fs) σ H Q) : tBM K t r (tVar i) (tAs (fs.map (tE K T W))) σ H Q := by
  obtain ⟨G, F, L, e, rel, q⟩ := q
  have q : tQ K T W σ (match gt e i with
    | some (c0, _) => if tyD t c0 then bnd (evV fs e) fun p => (match gt p.2 i with
      | some (c, t) => if muT t then (match h c p.1 with
        | some (c', d) => .ok (d, false, p.2.set i (some (c', t)))
        | none => .bad) else .bad
      | none => .bad) else .bad
    | none => .bad) G F L Q := q
  cases h0 : gt e i with
  | none => rw [h0] at q; exact False.elim q
  | some p0 =>
    obtain ⟨c0, t0⟩ := p0
    rw [h0] at q
    obtain ⟨v0, hv0, n0⟩ := rel.now h0
    dsimp only at q
    split at q
    · rename_i hty
      refine ⟨v0, hv0, now_ty (G := G) (L := L) (σ := σ) (e := e) rel.fH n0 hty, evV_evO fs rel ?_⟩
      cases h1 : evV fs e with
      | bad => rw [h1] at q; exact q
      | ex c d e' => rw [h1] at q; exact q
      | ok p =>
        rw [h1] at q
        simp only [bnd_ok] at q
        intro vs H' F' x r' ra
        cases h2 : gt p.2 i with
        | none => rw [h2] at q; exact False.elim q
        | some p2 =>
          obtain ⟨c, t2⟩ := p2
          rw [h2] at q
          dsimp only at q
          split at q
          · rename_i hm
            obtain ⟨a, x1, x2, x3, x4⟩ := own_at r' h2 (muT_iff hm)
            rw [hv0] at x1
            cases x1
            cases h3 : h c p.1 with
            | none => rw [h3] at q; exact False.elim q
            | some z =>
              obtain ⟨c', d⟩ := z
              rw [h3] at q
              exact o F' H' a c vs p.1 c' d Q r'.fH x2 x4 ra h3 fun v u ob rp => q v _ F' x (r'.chg h2 (muT_iff hm) hv0 ob) rp
          · exact False.elim q
    · exact False.elim q
def MeD (K : Fr) (r : V → List V → Hp → VK → Prop) (h : Op) : Prop := ∀ (F H : Hp) (x : V) (vs : List V) (dx : PyData) (ds : List PyData) (d : PyData) (o : Bool) (Q : VK), Ext F H → Now K F H x dx → RpAll K F vs ds → h (dx :: ds) = some (d, o) →
  (∀ v H' F', Ext F F' → Ext F' H' → Ext H H' → (∀ a u, F' a = some u → (∃ u, F a = some u) ∨ H a = none) → NewV K F' H H' v d o → Q v H') → r x vs H Q
theorem rpAll_now {F H : Hp} : ∀ {vs : List V} {ds : List PyData}, RpAll K F vs ds → NowAll K F H vs ds
  | _, _, .nil => trivial
  | _, _, .cons a b => ⟨.inl a, rpAll_now b⟩
theorem me_ok {r : V → List V → Hp → VK → Prop} {h : Op} (o : MeD K r h) {t : String} {f : EV} {fs : List EV} {σ : L2.St} {H : Hp} {Q : VK} (q : tE K T W (eMe t h f fs) σ H Q) : tBM K t r (tE K T W f) (tAs (fs.map (tE K T W))) σ H Q := by
  obtain ⟨G, F, L, e, rel, q⟩ := q
  refine ⟨G, F, L, e, rel, ?_⟩
  have q : tQ K T W σ (bnd (f e) fun p => if tyD t p.1 then bnd (evV fs p.2.2) fun q => (match h (p.1 :: q.1) with
    | some (d, o) => .ok (d, o, q.2)
    | none => .bad) else .bad) G F L Q := q
  cases h0 : f e with
  | bad => rw [h0] at q; exact q
  | ex c d e' => rw [h0] at q; exact q
  | ok p =>
    obtain ⟨d, ob, e1⟩ := p
    rw [h0] at q
    simp only [bnd_ok] at q
    intro v H1 F1 x1 r1 vr
    obtain ⟨F2, x2, r2, rp⟩ := r1.still vr
    split at q
    · rename_i hty
      refine ⟨now_ty (G := G) (L := L) (σ := σ) (e := e) r2.fH (.inl rp) hty, evV_evO fs r2 ?_⟩
      cases h1 : evV fs e1 with
      | bad => rw [h1] at q; exact q
      | ex c d e' => rw [h1] at q; exact fun u dx H' F' x3 => q u dx H' F' ((x1.trans x2).trans x3)
      | ok p =>
        rw [h1] at q
        simp only [bnd_ok] at q
        intro vs H' F' x3 r' ra
        cases h2 : h (d :: p.1) with
        | none => rw [h2] at q; exact False.elim q
        | some z =>
          obtain ⟨d', b⟩ := z
          rw [h2] at q
          exact o F' H' v vs d p.1 d' b Q r'.fH (.inl (rp.ext x3)) ra h2 fun w H4 F4 y1 y2 y3 y4 nv => q w H4 F4 (((x1.trans x2).trans x3).trans y1) (r'.grow y1 y2 y3 y4) (newV_vr r' nv)
    · exact False.elim q
theorem ms_ok {r : V → List V → Hp → VK → Prop} {h : Op} (o : MeD K r h) {t : String} {i : Nat} {fs : List EV} {σ : L2.St} {H : Hp} {Q : VK} (q : tE K T W (eMs t h i fs) σ H Q) : tBM K t r (tVar i) (tAs (fs.map (tE K T W))) σ H Q := by
  obtain ⟨G, F, L, e, rel, q⟩ := q
  have q : tQ K T W σ (match gt e i with
    | some (c0, _) => if tyD t c0 then bnd (evV fs e) fun p => (match gt p.2 i with
      | some (c, _) => (match h (c :: p.1) with
        | some (d, o) => .ok (d, o, p.2)
        | none => .bad)
      | none => .bad) else .bad
    | none => .bad) G F L Q := q
  cases h0 : gt e i with
  | none => rw [h0] at q; exact False.elim q
  | some p0 =>
    obtain ⟨c0, t0⟩ := p0
    rw [h0] at q
    obtain ⟨v0, hv0, n0⟩ := rel.now h0
    dsimp only at q
    split at q
    · rename_i hty
      refine ⟨v0, hv0, now_ty (G := G) (L := L) (σ := σ) (e := e) rel.fH n0 hty, evV_evO fs rel ?_⟩
      cases h1 : evV fs e with
      | bad => rw [h1] at q; exact q
      | ex c d e' => rw [h1] at q; exact q
      | ok p =>
        rw [h1] at q
        simp only [bnd_ok] at q
        intro vs H' F' x r' ra
        cases h2 : gt p.2 i with
        | none => rw [h2] at q; exact False.elim q
        | some p2 =>
          obtain ⟨c, t2⟩ := p2
          rw [h2] at q
          dsimp only at q
          obtain ⟨v, hv, n⟩ := r'.now h2
          rw [hv0] at hv
          cases hv
          cases h3 : h (c :: p.1) with
          | none => rw [h3] at q; exact False.elim q
          | some z =>
            obtain ⟨d', b⟩ := z
            rw [h3] at q
            exact o F' H' v0 vs c p.1 d' b Q r'.fH n ra h3 fun w H4 F4 y1 y2 y3 y4 nv => q w H4 F4 (x.trans y1) (r'.grow y1 y2 y3 y4) (newV_vr r' nv)
    · exact False.elim q
/-- x[k] = v -/
def SetD (K : Fr) (r : TSet) (h : St3) : Prop := ∀ (F H : Hp) (a : Addr) (c : PyData) (k v : V) (dk dv c' : PyData) (Q : Hp → Prop), Ext F H → Ob K F H a c → F a = none → Rp K F k dk → Rp K F v dv → h c dk dv = some c' →
  (∀ u, Ob K F (upd H a u) a c' → Q (upd H a u)) → r (.ref a) k v H Q
abbrev sQ (K : Fr) (T : List Addr) (W : WX) := tS K T W
end
section
variable {X : Cx} {T : List Addr} {W : WX} {apos cpos pos : Pos} {e : Expr} {es : List Expr} {f : EV} {fs : List EV} {t id : String} {name y : Str} {i : Nat} {py : Pos}
theorem se_mt {r : V → List V → Hp → VK → Prop} {h : Mt} (hr : MtR X id r) (hd : MtD X.K r h) (pa : PlainAttrs t) (slot : PySem.Slot t name id) (hty : typeOf (.builtin id) = pure (.type "method_descriptor")) (hN : X.N[i]? = some y) (hv : Vis X.env.scope y) (ha : SVs X T W (e :: es) fs)
    (hdb : (y == ("__debug__" : Str)) = false := by decide) (hcd : (y == ("__classdict__" : Str)) = false := by decide)
    (hbase : attributeBase (.Name y py) name X.env (eval (.Name y py) X.env) = eval (.Name y py) X.env := by rfl)
    (hfew : ((backTo cpos (starEach (e :: es) X.env)).all (fun x => !x.1) && (backToKw cpos (keywordEach [] X.env)).all (fun x => x.1.isSome)
      && decide ((e :: es).length + ([] : List Keyword).length + (if ([] : List Keyword).isEmpty then 0 else 1) < 30)) = true := by rfl)
    (hline : (apos.endLine == cpos.line) = true := by rfl) (hs : starEach (e :: es) X.env = (false, eval e X.env) :: starEach es X.env := by rfl) (hplain : (backTo cpos (starEach es X.env)).any (·.1) = false := by rfl) :
    SE X T W (.Call (.Attribute (.Name y py) name apos) (e :: es) [] cpos) (eMt t i h fs) :=
  PE.mono (pe_bm pa slot hty hr (pe_var hN hv hdb hcd) ha hbase hfew hline hs hplain) fun _ _ _ => mt_ok hd
theorem se_mt0 {r : V → List V → Hp → VK → Prop} {h : Mt} (hr : MtR X id r) (hd : MtD X.K r h) (pa : PlainAttrs t) (slot : PySem.Slot t name id) (hty : typeOf (.builtin id) = pure (.type "method_descriptor")) (hN : X.N[i]? = some y) (hv : Vis X.env.scope y)
    (hdb : (y == ("__debug__" : Str)) = false := by decide) (hcd : (y == ("__classdict__" : Str)) = false := by decide)
    (hbase : attributeBase (.Name y py) name X.env (eval (.Name y py) X.env) = eval (.Name y py) X.env := by rfl)
    (hline : (apos.endLine == cpos.line) = true := by rfl) :
    SE X T W (.Call (.Attribute (.Name y py) name apos) [] [] cpos) (eMt t i h []) :=
  PE.mono (pe_bm0 pa slot hty hr (pe_var hN hv hdb hcd) hbase hline) fun _ _ _ => mt_ok (fs := []) hd
theorem se_me {r : V → List V → Hp → VK → Prop} {h : Op} {o : Expr} (hr : MtR X id r) (hd : MeD X.K r h) (pa : PlainAttrs t) (slot : PySem.Slot t name id) (hty : typeOf (.builtin id) = pure (.type "method_descriptor")) (ho : SE X T W o f) (ha : SVs X T W (e :: es) fs)
    (hbase : attributeBase o name X.env (eval o X.env) = eval o X.env := by rfl)
    (hfew : ((backTo cpos (starEach (e :: es) X.env)).all (fun x => !x.1) && (backToKw cpos (keywordEach [] X.env)).all (fun x => x.1.isSome)
      && decide ((e :: es).length + ([] : List Keyword).length + (if ([] : List Keyword).isEmpty then 0 else 1) < 30)) = true := by rfl)
    (hline : (apos.endLine == cpos.line) = true := by rfl) (hs : starEach (e :: es) X.env = (false, eval e X.env) :: starEach es X.env := by rfl) (hplain : (backTo cpos (starEach es X.env)).any (·.1) = false := by rfl) :
    SE X T W (.Call (.Attribute o name apos) (e :: es) [] cpos) (eMe t h f fs) :=
  PE.mono (pe_bm pa slot hty hr ho ha hbase hfew hline hs hplain) fun _ _ _ => me_ok hd
theorem se_ms {r : V → List V → Hp → VK → Prop} {h : Op} (hr : MtR X id r) (hd : MeD X.K r h) (pa : PlainAttrs t) (slot : PySem.Slot t name id) (hty : typeOf (.builtin id) = pure (.type "method_descriptor")) (hN : X.N[i]? = some y) (hv : Vis X.env.scope y) (ha : SVs X T W (e :: es) fs)
    (hdb : (y == ("__debug__" : Str)) = false := by decide) (hcd : (y == ("__classdict__" : Str)) = false := by decide)
    (hbase : attributeBase (.Name y py) name X.env (eval (.Name y py) X.env) = eval (.Name y py) X.env := by rfl)
    (hfew : ((backTo cpos (starEach (e :: es) X.env)).all (fun x => !x.1) && (backToKw cpos (keywordEach [] X.env)).all (fun x => x.1.isSome)
      && decide ((e :: es).length + ([] : List Keyword).length + (if ([] : List Keyword).isEmpty then 0 else 1) < 30)) = true := by rfl)
    (hline : (apos.endLine == cpos.line) = true := by rfl) (hs : starEach (e :: es) X.env = (false, eval e X.env) :: starEach es X.env := by rfl) (hplain : (backTo cpos (starEach es X.env)).any (·.1) = false := by rfl) :
    SE X T W (.Call (.Attribute (.Name y py) name apos) (e :: es) [] cpos) (eMs t h i fs) :=
  PE.mono (pe_bm pa slot hty hr (pe_var hN hv hdb hcd) ha hbase hfew hline hs hplain) fun _ _ _ => ms_ok hd
end

/-! ### lists -/
def mAppend : Mt
  | .list xs, [d] => if xs.length < 16777216 then some (.list (xs ++ [d]), .none) else none
  | _, _ => none
def mPop : Mt
  | .list xs, [] => match xs.getLast? with
    | some d => some (.list xs.dropLast, d)
    | none => none
  | _, _ => none
def mPopAt : Mt
  | .list xs, [.int i] => if -(2 ^ 63) ≤ i ∧ i < 2 ^ 63 then (match seqIndex? i xs.length with
    | some k => (match xs[k]? with
      | some d => some (.list (xs.eraseIdx k), d)
      | none => none)
    | none => none) else none
  | _, _ => none
def mInsert : Mt
  | .list xs, [.int i, d] => if xs.length < 16777216 ∧ 0 ≤ i ∧ i < 2 ^ 63 then some (.list (xs.take i.toNat ++ [d] ++ xs.drop i.toNat), .none) else none
  | _, _ => none
def uList : St3
  | .list xs, .int i, d => (ixN xs.length i).map fun j => .list (xs.set j d)
  | _, _, _ => none
section
variable {K : Fr}
theorem ob_list {F H : Hp} {a : Addr} {ds : List PyData} (o : Ob K F H a (.list ds)) : ∃ xs, H a = some (.lst xs) ∧ RpAll K F xs ds := by
  cases o with | lst x r => exact ⟨_, x, r⟩
theorem rp1 {F : Hp} {vs : List V} {d : PyData} (r : RpAll K F vs [d]) : ∃ v, vs = [v] ∧ Rp K F v d := by
  cases r with | cons a b => cases b; exact ⟨_, rfl, a⟩
theorem rp2 {F : Hp} {vs : List V} {d d' : PyData} (r : RpAll K F vs [d, d']) : ∃ v w, vs = [v, w] ∧ Rp K F v d ∧ Rp K F w d' := by
  cases r with | cons a b => obtain ⟨w, rfl, z⟩ := rp1 b; exact ⟨_, _, rfl, a, z⟩
theorem d_append : MtD K rAppend mAppend := fun F H a c vs ds c' d Q e ob hF ra h k => by
  unfold mAppend at h
  split at h
  · split at h
    · rename_i hz
      cases h
      obtain ⟨xs, hx, rx⟩ := ob_list ob
      obtain ⟨v, rfl, rv⟩ := rp1 ra
      exact ⟨a, xs, v, rfl, rfl, hx, by rw [sizeLine_eq, rx.length]; exact hz, k _ _ (.lst upd_same (rx.append (.cons rv .nil))) .non⟩
    · cases h
  · cases h
theorem d_pop : MtD K rPop mPop := fun F H a c vs ds c' d Q e ob hF ra h k => by
  unfold mPop at h
  split at h
  · rename_i ds
    split at h
    · rename_i z hz
      cases h
      obtain ⟨xs, hx, rx⟩ := ob_list ob
      cases ra
      rw [List.getLast?_eq_getElem?] at hz
      obtain ⟨v, hv, rv⟩ := rx.getD hz
      refine ⟨a, xs, v, rfl, rfl, hx, by rw [rx.length]; exact hv, k _ _ (.lst upd_same ?_) rv⟩
      rw [List.dropLast_eq_take, List.dropLast_eq_take, rx.length]
      exact rx.take _
    · cases h
  · cases h
theorem d_popAt : MtD K rPopAt mPopAt := fun F H a c vs ds c' d Q e ob hF ra h k => by
  unfold mPopAt at h
  split at h
  · split at h
    · rename_i hb
      split at h
      · rename_i j hj
        split at h
        · rename_i z hz
          cases h
          obtain ⟨xs, hx, rx⟩ := ob_list ob
          obtain ⟨v, rfl, rv⟩ := rp1 ra
          cases rv
          obtain ⟨v, hv, rv⟩ := rx.getD hz
          exact ⟨a, xs, _, j, v, rfl, rfl, hx, hb.1, hb.2, by rw [rx.length]; exact hj, hv, k _ _ (.lst upd_same (rx.eraseIdx j)) rv⟩
        · cases h
      · cases h
    · cases h
  · cases h
theorem d_insert : MtD K (fun x vs H Q => ∃ (l : Addr) (xs : List V) (i : Int) (y : V), x = .ref l ∧ vs = [.int i, y] ∧ H l = some (.lst xs) ∧ xs.length < sizeLine ∧ 0 ≤ i ∧ i < 2 ^ 63 ∧ Q .non (upd H l (.lst (xs.take i.toNat ++ [y] ++ xs.drop i.toNat)))) mInsert := fun F H a c vs ds c' d Q e ob hF ra h k => by
  unfold mInsert at h
  split at h
  · split at h
    · rename_i hz
      cases h
      obtain ⟨xs, hx, rx⟩ := ob_list ob
      obtain ⟨v, w, rfl, rv, rw'⟩ := rp2 ra
      cases rv
      exact ⟨a, xs, _, w, rfl, rfl, hx, by rw [sizeLine_eq, rx.length]; exact hz.1, hz.2.1, hz.2.2, k _ _ (.lst upd_same (((rx.take _).append (.cons rw' .nil)).append (rx.drop _))) .non⟩
    · cases h
  · cases h
theorem u_list : SetD K rSetL uList := fun F H a c kv v dk dv c' Q e ob hF rk rv h k => by
  unfold uList at h
  split at h
  · obtain ⟨j, h1, h2⟩ := Option.map_eq_some_iff.mp h
    cases h2
    obtain ⟨xs, hx, rx⟩ := ob_list ob
    cases rk
    exact ⟨a, xs, _, j, rfl, rfl, hx, by rw [rx.length]; exact h1, k _ (.lst upd_same (rx.set rv j))⟩
  · cases h
end
end Py
end
section
set_option Elab.async false
set_option linter.all false
set_option maxRecDepth 100000
set_option maxHeartbeats 4000000
/-! x[k] = v, x[k] op= v; dicts. -/
namespace Py
open PySem PySem.Spec PyProof.Rows L2

theorem r2_elim {r : R2} {x y : V} {H : Hp} {Q : VK} (h : r2 r [x, y] H Q) : r x y H Q := by
  obtain ⟨a, b, e, q⟩ := h
  cases e
  exact q
def s3Or (h h' : St3) : St3 := fun c k v => match h c k v with
  | some z => some z
  | none => h' c k v
section
variable {K : Fr} {T : List Addr} {W : WX}
theorem setD_or {r r' : TSet} {h h' : St3} (a : SetD K r h) (b : SetD K r' h') : SetD K (fun o i v H Q => r o i v H Q ∨ r' o i v H Q) (s3Or h h') := fun F H a' c k v dk dv c' Q e ob hF rk rv q z => by
  unfold s3Or at q
  cases y : h c dk dv with
  | some w => rw [y] at q; exact .inl (a F H a' c k v dk dv c' Q e ob hF rk rv (y.trans q) z)
  | none => rw [y] at q; exact .inr (b F H a' c k v dk dv c' Q e ob hF rk rv q z)
theorem pset_or {X : Cx} {r r' : TSet} (a : PSet X r) (b : PSet X r') : PSet X (fun o i v H Q => r o i v H Q ∨ r' o i v H Q) := fun pins s σ H o i v ov iv u Q I r1 r2 r3 h => by
  rcases h with h | h
  · exact a pins s σ H o i v ov iv u Q I r1 r2 r3 h
  · exact b pins s σ H o i v ov iv u Q I r1 r2 r3 h
theorem pget_or {X : Cx} {r r' : V → V → Hp → VK → Prop} (a : PGet X r) (b : PGet X r') : PGet X (fun o i H Q => r o i H Q ∨ r' o i H Q) := fun pins s σ H o i ov iv Q I r1 r2 h => by
  rcases h with h | h
  · exact a pins s σ H o i ov iv Q I r1 r2 h
  · exact b pins s σ H o i ov iv Q I r1 r2 h
theorem sPut_ok {r : TSet} {h : St3} (o : SetD K r h) {i : Nat} {fv fk : EV} {σ : L2.St} {H : Hp} {D : Ends} (q : tS K T W (sPut i h fv fk) D σ H) : tAsg (tE K T W fv) (gSub (tVar i) (tE K T W fk) r) D σ H := by
  obtain ⟨G, F, L, e, rel, q⟩ := q
  show tE K T W fv σ H fun v H1 => tVar i σ H1 fun o1 H1' => tE K T W fk σ H1' fun k H2 => r o1 k v H2 fun H3 => D.nx σ H3
  refine e_then (k := fun d _ e' => if (gt e' i).isSome then bnd (fk e') fun q => (match gt q.2.2 i with
    | some (c, t) => if muT t then (match h c q.1 d with
      | some c' => .ok (.nx (q.2.2.set i (some (c', t))))
      | none => .bad) else .bad
    | none => .bad) else .bad) rel q fun d ob e1 v H1 F1 _ x1 r1 vr q => ?_
  cases h0 : gt e1 i with
  | none => rw [h0] at q; exact False.elim q
  | some p0 =>
    obtain ⟨c0, t0⟩ := p0
    rw [h0] at q
    simp only [Option.isSome_some, if_true] at q
    obtain ⟨v0, hv0, _⟩ := r1.now h0
    obtain ⟨F2, x2, r2, rp⟩ := r1.still vr
    refine ⟨v0, hv0, ?_⟩
    refine e_then (k := fun d2 _ e' => (match gt e' i with
      | some (c, t) => if muT t then (match h c d2 d with
        | some c' => .ok (.nx (e'.set i (some (c', t))))
        | none => .bad) else .bad
      | none => .bad)) r2 (fQ.mono q x2) fun d2 ob2 e2 kv H3 F3 _ x3 r3 vr3 q => ?_
    obtain ⟨F4, x4, r4, rp4⟩ := r3.still vr3
    have q := fQ.mono q x4
    cases h2 : gt e2 i with
    | none => rw [h2] at q; exact False.elim q
    | some p2 =>
      obtain ⟨c, t⟩ := p2
      rw [h2] at q
      dsimp only at q
      split at q
      · rename_i hm
        obtain ⟨a, y1, y2, y3, y4⟩ := own_at r4 h2 (muT_iff hm)
        rw [hv0] at y1
        cases y1
        cases h3 : h c d2 d with
        | none => rw [h3] at q; exact False.elim q
        | some c' =>
          rw [h3] at q
          exact o F4 H3 a c kv v d2 d c' _ r4.fH y2 y4 rp4 (rp.ext (x3.trans x4)) h3 fun u ob => q σ _ F4 (Ext.refl F4) (r4.chg h2 (muT_iff hm) hv0 ob)
      · exact False.elim q
theorem sPuA_ok {rg : V → V → Hp → VK → Prop} {ri : TIp} {rs : TSet} {g h : Op} {u : St3} (og : OpD K (r2 rg) g) (oh : OpD K (r2 ri) h) (o : SetD K rs u) {i : Nat} {fk fv : EV} {σ : L2.St} {H : Hp} {D : Ends} (q : tS K T W (sPuA i g h u fk fv) D σ H) :
    tAugS (tVar i) (tE K T W fk) (tE K T W fv) rg ri rs D σ H := by
  obtain ⟨G, F, L, e, rel, q⟩ := q
  have q : fQ K T W (if (gt e i).isSome then bnd (fk e) fun q => (match gt q.2.2 i with
    | some (c, _) => (match g [c, q.1] with
      | some (x, false) => bnd (fv q.2.2) fun p => (match gt p.2.2 i with
        | some (c, t) => if muT t then (match h [x, p.1] with
          | some (z, false) => (match u c q.1 z with
            | some c' => .ok (.nx (p.2.2.set i (some (c', t))))
            | none => .bad)
          | _ => .bad) else .bad
        | none => .bad)
      | _ => .bad)
    | none => .bad) else .bad) G F L D := q
  cases h0 : gt e i with
  | none => rw [h0] at q; exact False.elim q
  | some p0 =>
    obtain ⟨c0, t0⟩ := p0
    rw [h0] at q
    simp only [Option.isSome_some, if_true] at q
    obtain ⟨v0, hv0, _⟩ := rel.now h0
    refine ⟨v0, hv0, ?_⟩
    refine e_then (k := fun dk _ e1 => (match gt e1 i with
      | some (c, _) => (match g [c, dk] with
        | some (x, false) => bnd (fv e1) fun p => (match gt p.2.2 i with
          | some (c, t) => if muT t then (match h [x, p.1] with
            | some (z, false) => (match u c dk z with
              | some c' => .ok (.nx (p.2.2.set i (some (c', t))))
              | none => .bad)
            | _ => .bad) else .bad
          | none => .bad)
        | _ => .bad)
      | none => .bad)) rel q fun dk ok e1 kv H1 F1 _ x1 r1 vr q => ?_
    obtain ⟨F2, x2, r2, rp⟩ := r1.still vr
    have q := fQ.mono q x2
    cases h1 : gt e1 i with
    | none => rw [h1] at q; exact False.elim q
    | some p1 =>
      obtain ⟨c1, t1⟩ := p1
      rw [h1] at q
      dsimp only at q
      obtain ⟨v1, hv1, n1⟩ := r2.now h1
      rw [hv0] at hv1
      cases hv1
      cases h2 : g [c1, dk] with
      | none => rw [h2] at q; exact False.elim q
      | some z =>
        obtain ⟨x, ox⟩ := z
        rw [h2] at q
        cases ox with
        | true => exact False.elim q
        | false =>
          refine r2_elim (og F2 H1 [v0, kv] [c1, dk] x false (fun xv H3 => tE K T W fv σ H3 fun y H4 => ri xv y H4 fun z H5 => rs v0 kv z H5 fun H6 => D.nx σ H6) r2.fH ⟨n1, .inl rp, trivial⟩ h2 fun xv H3 F3 y1 y2 y3 y4 nv => ?_)
          · have r3 := r2.grow y1 y2 y3 y4
            have q := fQ.mono q y1
            refine e_then (k := fun dv _ e3 => (match gt e3 i with
              | some (c, t) => if muT t then (match h [x, dv] with
                | some (z, false) => (match u c dk z with
                  | some c' => .ok (.nx (e3.set i (some (c', t))))
                  | none => .bad)
                | _ => .bad) else .bad
              | none => .bad)) r3 q fun dv ov e3 vv H4 F4 _ x4 r4 vr4 q => ?_
            obtain ⟨F5, x5, r5, rp5⟩ := r4.still vr4
            have q := fQ.mono q x5
            cases h3 : gt e3 i with
            | none => rw [h3] at q; exact False.elim q
            | some p3 =>
              obtain ⟨c3, t3⟩ := p3
              rw [h3] at q
              dsimp only at q
              split at q
              · rename_i hm
                cases h4 : h [x, dv] with
                | none => rw [h4] at q; exact False.elim q
                | some zz =>
                  obtain ⟨z, oz⟩ := zz
                  rw [h4] at q
                  cases oz with
                  | true => exact False.elim q
                  | false =>
                    have nv' : Rp K F3 xv x := nv
                    refine r2_elim (oh F5 H4 [xv, vv] [x, dv] z false (fun z0 H5 => rs v0 kv z0 H5 fun H6 => D.nx σ H6) r5.fH ⟨.inl (nv'.ext (x4.trans x5)), .inl rp5, trivial⟩ h4 fun zv H6 F6 w1 w2 w3 w4 nz => ?_)
                    · have r6 := r5.grow w1 w2 w3 w4
                      have q := fQ.mono q w1
                      obtain ⟨a, k1, k2, k3, k4⟩ := own_at r6 h3 (muT_iff hm)
                      rw [hv0] at k1
                      cases k1
                      dsimp only at q
                      cases h5 : u c3 dk z with
                      | none => rw [h5] at q; exact False.elim q
                      | some c' =>
                        rw [h5] at q
                        exact o F6 H6 a c3 kv zv dk z c' _ r6.fH k2 k4 (rp.ext (((y1.trans x4).trans x5).trans w1)) nz h5 fun uu ob => q σ _ F6 (Ext.refl F6) (r6.chg h3 (muT_iff hm) hv0 ob)
              · exact False.elim q
end
section
variable {X : Cx} {T : List Addr} {W : WX} {pos ppos py : Pos} {i : Nat} {y : Str} {ek ev : Expr} {fk fv : EV}
theorem ss_put {r : TSet} {h : St3} (hN : X.N[i]? = some y) (hv : Vis X.env.scope y) (hev : SE X T W ev fv) (hek : SE X T W ek fk) (hp : PSet X r) (hd : SetD X.K r h)
    (hdb : (y == ("__debug__" : Str)) = false := by decide) (hcd : (y == ("__classdict__" : Str)) = false := by decide)
    (ha : ∀ v, assign (.Subscript (.Name y py) ek ppos) X.env v = (do
      let ov ← holding [v] (eval (.Name y py) X.env)
      let iv ← holding [v, ov] (eval ek X.env)
      standAt ppos
      holding [v, ov, iv] (setItem ov iv v)
      release [v, ov, iv] []) := by intro _; rfl)
    (hs : swapsWithSole [.Subscript (.Name y py) ek ppos] ev pos.line X.env = pure false := by rfl) (hw : swappedStores [.Subscript (.Name y py) ek ppos] ev X.env = pure none := by rfl)
    (h1 : (assignEach [.Subscript (.Name y py) ek ppos] X.env).map (·.2) = [assign (.Subscript (.Name y py) ek ppos) X.env] := by rfl) : SS X T W (.Assign [.Subscript (.Name y py) ek ppos] ev pos) (sPut i h fv fk) :=
  PS.mono (ps_asg hev (pg_sub (pe_var hN hv hdb hcd) hek hp ha) hs hw h1) fun _ _ _ => sPut_ok hd
theorem ss_puA {rg : V → V → Hp → VK → Prop} {ri : TIp} {rs : TSet} {g h : Op} {u : St3} {op : Operator} (hN : X.N[i]? = some y) (hv : Vis X.env.scope y) (hek : SE X T W ek fk) (hev : SE X T W ev fv) (pg : PGet X rg) (pp : PIp X op ri) (ps : PSet X rs)
    (og : OpD X.K (r2 rg) g) (oh : OpD X.K (r2 ri) h) (o : SetD X.K rs u) (hdb : (y == ("__debug__" : Str)) = false := by decide) (hcd : (y == ("__classdict__" : Str)) = false := by decide)
    (ha : ∀ ov iv new, augStore ek ov iv new = (do holding [new, ov, iv] (setItem ov iv new); release [new, ov, iv] []; pure .next) := by intros; rfl) : SS X T W (.AugAssign (.Subscript (.Name y py) ek ppos) op ev pos) (sPuA i g h u fk fv) :=
  PS.mono (ps_augS (pe_var hN hv hdb hcd) hek pg hev pp ps ha) fun _ _ _ => sPuA_ok og oh o
end
end Py
end
section
set_option Elab.async false
set_option linter.all false
set_option maxRecDepth 100000
set_option maxHeartbeats 4000000
/-! Dicts. -/
namespace Py
open PySem PySem.Spec PyProof.Rows L2

def kA : PyData → PyData → Bool
  | .int i, .int j => decide (i = j)
  | .str x, .str y => decide (x = y)
  | _, _ => false
def kAs : List PyData → List PyData → Bool
  | [], [] => true
  | a :: r, b :: s => kA a b && kAs r s
  | _, _ => false
/-- equal keys -/
def kE : PyData → PyData → Bool
  | .tuple xs, .tuple ys => kAs xs ys
  | a, b => kA a b
abbrev Kvs := List (PyData × PyData)
def dG : Kvs → PyData → Option PyData
  | [], _ => none
  | (k', v) :: r, k => if kE k' k then some v else dG r k
def dS (kvs : Kvs) (k v : PyData) : Kvs := if (kvs.any fun p => kE p.1 k) then kvs.map fun p => if kE p.1 k then (p.1, v) else p else kvs ++ [(k, v)]
theorem kA_kD (a b : Key) : kA (kD a) (kD b) = decide (a = b) := by
  cases a <;> cases b <;> simp [kA, kD]
theorem kE_kD (a b : Key) : kE (kD a) (kD b) = decide (a = b) := by
  rw [← kA_kD]; cases a <;> cases b <;> rfl
theorem kAs_kD : ∀ a b : List Key, kAs (a.map kD) (b.map kD) = decide (a = b)
  | [], [] => rfl
  | [], b :: s => by simp [kAs]
  | a :: r, [] => by simp [kAs]
  | a :: r, b :: s => by simp [kAs, kA_kD, kAs_kD r s, Bool.decide_and]
theorem kE_tD (a b : List Key) : kE (tD a) (tD b) = decide (a = b) := kAs_kD a b
section
variable {K : Fr} {F : Hp} {κ : Type} [DecidableEq κ] {enc : κ → PyData}
/-- the entries of a dict -/
inductive Ents (K : Fr) (F : Hp) (enc : κ → PyData) : List (κ × V) → Kvs → Prop
  | nil : Ents K F enc [] []
  | cons {k : κ} {v : V} {d : PyData} {ks : List (κ × V)} {kvs : Kvs} : Rp K F v d → Ents K F enc ks kvs → Ents K F enc ((k, v) :: ks) ((enc k, d) :: kvs)
theorem Ents.of : ∀ {ks : List (κ × V)} {kvs : Kvs}, RpAll K F (ks.map (·.2)) (kvs.map (·.2)) → ks.map (fun p => enc p.1) = kvs.map (·.1) → Ents K F enc ks kvs
  | [], [], _, _ => .nil
  | [], _ :: _, r, _ => by cases r
  | _ :: _, [], r, _ => by cases r
  | (k, v) :: ks, (k', d) :: kvs, r, e => by
    cases r with
    | cons a b =>
      simp only [List.map_cons, List.cons.injEq] at e
      obtain ⟨rfl, e⟩ := e
      exact .cons a (Ents.of b e)
theorem Ents.rp : ∀ {ks : List (κ × V)} {kvs : Kvs}, Ents K F enc ks kvs → RpAll K F (ks.map (·.2)) (kvs.map (·.2))
  | _, _, .nil => .nil
  | _, _, .cons a b => .cons a (Ents.rp b)
theorem Ents.keys : ∀ {ks : List (κ × V)} {kvs : Kvs}, Ents K F enc ks kvs → ks.map (fun p => enc p.1) = kvs.map (·.1)
  | _, _, .nil => rfl
  | _, _, .cons a b => by simp [Ents.keys b]
theorem Ents.length : ∀ {ks : List (κ × V)} {kvs : Kvs}, Ents K F enc ks kvs → ks.length = kvs.length
  | _, _, .nil => rfl
  | _, _, .cons a b => by simp [Ents.length b]
theorem Ents.get (he : ∀ a b, kE (enc a) (enc b) = decide (a = b)) (k : κ) : ∀ {ks : List (κ × V)} {kvs : Kvs}, Ents K F enc ks kvs → (∃ v d, valV ks k = some v ∧ dG kvs (enc k) = some d ∧ Rp K F v d) ∨ (valV ks k = none ∧ dG kvs (enc k) = none)
  | _, _, .nil => .inr ⟨rfl, rfl⟩
  | (k', v) :: ks, (_, d) :: kvs, .cons a b => by
    by_cases h : k' = k
    · exact .inl ⟨v, d, valV_pos h, by simp [dG, he, h], a⟩
    · rw [valV_neg h]
      have : dG ((enc k', d) :: kvs) (enc k) = dG kvs (enc k) := by simp [dG, he, h]
      rw [this]
      exact Ents.get he k b
theorem Ents.any (he : ∀ a b, kE (enc a) (enc b) = decide (a = b)) (k : κ) : ∀ {ks : List (κ × V)} {kvs : Kvs}, Ents K F enc ks kvs → (ks.any fun kv => decide (kv.1 = k)) = kvs.any fun p => kE p.1 (enc k)
  | _, _, .nil => rfl
  | (k', v) :: ks, (_, d) :: kvs, .cons a b => by simp [he, Ents.any he k b]
theorem Ents.map (he : ∀ a b, kE (enc a) (enc b) = decide (a = b)) (k : κ) {w : V} {dw : PyData} (r : Rp K F w dw) : ∀ {ks : List (κ × V)} {kvs : Kvs}, Ents K F enc ks kvs → Ents K F enc (ks.map fun kv => if kv.1 = k then (kv.1, w) else kv) (kvs.map fun p => if kE p.1 (enc k) then (p.1, dw) else p)
  | _, _, .nil => .nil
  | (k', v) :: ks, (_, d) :: kvs, .cons a b => by
    by_cases h : k' = k
    · simp only [List.map_cons, he, h, if_true, decide_true]
      exact .cons r (Ents.map he k r b)
    · simp only [List.map_cons, he, h, if_false, decide_false, Bool.false_eq_true]
      exact .cons a (Ents.map he k r b)
theorem Ents.snoc {k : κ} {w : V} {dw : PyData} (r : Rp K F w dw) : ∀ {ks : List (κ × V)} {kvs : Kvs}, Ents K F enc ks kvs → Ents K F enc (ks ++ [(k, w)]) (kvs ++ [(enc k, dw)])
  | _, _, .nil => .cons r .nil
  | _, _, .cons a b => .cons a (Ents.snoc r b)
theorem Ents.put (he : ∀ a b, kE (enc a) (enc b) = decide (a = b)) (k : κ) {w : V} {dw : PyData} (r : Rp K F w dw) {ks : List (κ × V)} {kvs : Kvs} (h : Ents K F enc ks kvs) : Ents K F enc (putK ks k w) (dS kvs (enc k) dw) := by
  unfold putK dS
  rw [h.any he k]
  split
  · exact h.map he k r
  · exact h.snoc r
end
def keyD : PyData → Option Key
  | .int i => some (.inl i)
  | .str x => some (.inr x)
  | _ => none
def keysD : List PyData → Option (List Key)
  | [] => some []
  | d :: r => match keyD d with
    | some k => (keysD r).map (k :: ·)
    | none => none
def keyT : PyData → Option (List Key)
  | .tuple ds => keysD ds
  | _ => none
theorem keyD_eq {d : PyData} {k : Key} (h : keyD d = some k) : d = kD k := by
  cases d <;> cases h <;> rfl
theorem keysD_eq : ∀ {ds : List PyData} {k : List Key}, keysD ds = some k → ds = k.map kD
  | [], k, h => by cases h; rfl
  | d :: r, k, h => by
    unfold keysD at h
    split at h
    · rename_i k0 h0
      obtain ⟨z, h1, h2⟩ := Option.map_eq_some_iff.mp h
      cases h2
      rw [keyD_eq h0, keysD_eq h1]; rfl
    · cases h
theorem keyT_eq {d : PyData} {k : List Key} (h : keyT d = some k) : d = tD k := by
  unfold keyT at h
  split at h
  · rw [keysD_eq h]; rfl
  · cases h
/-- a dict with keys that are numbers or texts; that are tuples -/
def dK? : PyData → Option Kvs
  | .dict ((.none, _) :: _) => none
  | .dict kvs => some kvs
  | _ => none
def dT? : PyData → Option Kvs
  | .dict ((.none, .none) :: kvs) => some kvs
  | _ => none
section
variable {K : Fr} {F H : Hp}
theorem kd_now {v : V} {k : Key} (n : Now K F H v (kD k)) : v = kV k := by
  cases k
  · exact now_int n
  · exact now_str n
theorem kd_all : ∀ {xs : List V} {k : List Key}, RpAll K F xs (k.map kD) → xs = k.map kV
  | _, [], h => by cases h; rfl
  | _, k :: r, h => by cases h with | cons a b => rw [kd_all b, kd_now (H := F) (.inl a)]; rfl
theorem td_now {v : V} {k : List Key} (n : Now K F H v (tD k)) : ∃ b, v = .ref b ∧ F b = some (.tup (k.map kV)) := by
  obtain ⟨a, xs, rfl, s, r⟩ := now_tup n
  cases kd_all r
  exact ⟨a, rfl, s⟩
theorem ob_dK {a : Addr} {d : PyData} {kvs : Kvs} (o : Ob K F H a d) (h : dK? d = some kvs) : ∃ ks, H a = some (.dK ks) ∧ Ents K F kD ks kvs := by
  cases o with
  | lst x r => cases h
  | dK x r k =>
    rename_i ks kvs'
    unfold dK? at h
    split at h
    · cases h
    · rename_i e; cases h; cases e; exact ⟨ks, x, .of r k⟩
    · cases h
  | dT x r k => cases h
theorem ob_dT {a : Addr} {d : PyData} {kvs : Kvs} (o : Ob K F H a d) (h : dT? d = some kvs) : ∃ ks, H a = some (.dT ks) ∧ Ents K F tD ks kvs := by
  cases o with
  | lst x r => cases h
  | dK x r k =>
    rename_i ks kvs'
    unfold dT? at h
    split at h
    · rename_i e; cases h; cases e
      cases ks with
      | nil => cases k
      | cons p ks => obtain ⟨k0, v⟩ := p; cases k0 <;> cases k
    · cases h
  | dT x r k => cases h; exact ⟨_, x, .of r k⟩
theorem now_dK {v : V} {d : PyData} {kvs : Kvs} (e : Ext F H) (n : Now K F H v d) (h : dK? d = some kvs) : ∃ a ks, v = .ref a ∧ H a = some (.dK ks) ∧ Ents K F kD ks kvs := by
  rcases n with n | ⟨a, rfl, o⟩
  · cases n with
    | dK x r k => obtain ⟨ks, y, z⟩ := ob_dK (H := F) (.dK x r k) h; exact ⟨_, ks, rfl, e _ _ y, z⟩
    | dT x r k => cases h
    | non => cases h
    | bl => cases h
    | int => cases h
    | str => cases h
    | lst => cases h
    | tup => cases h
  · obtain ⟨ks, y, z⟩ := ob_dK o h
    exact ⟨a, ks, rfl, y, z⟩
theorem now_dT {v : V} {d : PyData} {kvs : Kvs} (e : Ext F H) (n : Now K F H v d) (h : dT? d = some kvs) : ∃ a ks, v = .ref a ∧ H a = some (.dT ks) ∧ Ents K F tD ks kvs := by
  rcases n with n | ⟨a, rfl, o⟩
  · cases n with
    | dK x r k => obtain ⟨ks, y, z⟩ := ob_dT (H := F) (.dK x r k) h; exact ⟨_, ks, rfl, e _ _ y, z⟩
    | dT x r k => cases h; exact ⟨_, _, rfl, e _ _ x, .of r k⟩
    | non => cases h
    | bl => cases h
    | int => cases h
    | str => cases h
    | lst => cases h
    | tup => cases h
  · obtain ⟨ks, y, z⟩ := ob_dT o h
    exact ⟨a, ks, rfl, y, z⟩
/-- what a dict holds at a key; none: no such dict, no such key -/
def dAt (d k : PyData) : Option (Option PyData) := match keyD k with
  | some _ => (dK? d).map fun kvs => dG kvs k
  | none => match keyT k with
    | some _ => (dT? d).map fun kvs => dG kvs k
    | none => none
theorem dAt_ok {x y : V} {d k : PyData} {o : Option PyData} (e : Ext F H) (nx : Now K F H x d) (ny : Now K F H y k) (h : dAt d k = some o) : ∃ a ov, x = .ref a ∧ DGet H a y ov ∧ ((∃ v w, ov = some v ∧ o = some w ∧ Rp K F v w) ∨ (ov = none ∧ o = none)) := by
  unfold dAt at h
  split at h
  · rename_i k0 hk
    obtain ⟨kvs, h1, h2⟩ := Option.map_eq_some_iff.mp h
    obtain ⟨a, ks, rfl, x1, x2⟩ := now_dK e nx h1
    have := keyD_eq hk
    subst this
    cases kd_now ny
    refine ⟨a, _, rfl, .k x1, ?_⟩
    rcases x2.get kE_kD k0 with ⟨v, w, g1, g2, g3⟩ | ⟨g1, g2⟩
    · exact .inl ⟨v, w, g1, by rw [← h2, g2], g3⟩
    · exact .inr ⟨g1, by rw [← h2, g2]⟩
  · split at h
    · rename_i k0 hk
      obtain ⟨kvs, h1, h2⟩ := Option.map_eq_some_iff.mp h
      obtain ⟨a, ks, rfl, x1, x2⟩ := now_dT e nx h1
      have := keyT_eq hk
      subst this
      obtain ⟨b, rfl, y1⟩ := td_now ny
      refine ⟨a, _, rfl, .t x1 (e _ _ y1), ?_⟩
      rcases x2.get kE_tD k0 with ⟨v, w, g1, g2, g3⟩ | ⟨g1, g2⟩
      · exact .inl ⟨v, w, g1, by rw [← h2, g2], g3⟩
      · exact .inr ⟨g1, by rw [← h2, g2]⟩
    · cases h
end
def oIxD : Op
  | [d, k] => match dAt d k with
    | some (some v) => some (v, false)
    | _ => none
  | _ => none
def oInD : Op
  | [k, d] => (dAt d k).map fun o => (.bool o.isSome, false)
  | _ => none
def oNotInD : Op
  | [k, d] => (dAt d k).map fun o => (.bool (!o.isSome), false)
  | _ => none
def oGet2 : Op
  | [d, k, x] => (dAt d k).map fun o => (o.getD x, false)
  | _ => none
def oGet1 : Op
  | [d, k] => (dAt d k).map fun o => (o.getD .none, false)
  | _ => none
def oLenD : Op
  | [d] => match dK? d with
    | some kvs => some (.int kvs.length, false)
    | none => (dT? d).map fun kvs => (.int kvs.length, false)
  | _ => none
def uDict : St3 := fun d k v => match keyD k with
  | some _ => match dK? d with
    | some kvs => if kvs.length < 16777216 then some (.dict (dS kvs k v)) else none
    | none => none
  | none => match keyT k with
    | some _ => match dT? d with
      | some kvs => if kvs.length < 16777216 then some (.dict ((.none, .none) :: dS kvs k v)) else none
      | none => none
    | none => none
def rDG : R2 := fun x y H Q => ∃ a v, x = .ref a ∧ DGet H a y (some v) ∧ Q v H
def rDI : R2 := fun y x H Q => ∃ a o, x = .ref a ∧ DGet H a y o ∧ Q (.bl o.isSome) H
def rDNI : R2 := fun y x H Q => ∃ a o, x = .ref a ∧ DGet H a y o ∧ Q (.bl (!o.isSome)) H
def rDG2 : V → List V → Hp → VK → Prop := fun x xs H Q => ∃ a y z o, x = .ref a ∧ xs = [y, z] ∧ DGet H a y o ∧ Q (o.getD z) H
def rDG1 : V → List V → Hp → VK → Prop := fun x xs H Q => ∃ a y o, x = .ref a ∧ xs = [y] ∧ DGet H a y o ∧ Q (o.getD .non) H
section
variable {X : Cx}
theorem ix_D (hu : X.A.units + 64 < cLine) : IxR X rDG := by
  intro value slice pins s σ H x y v u Q I rx ry h hs
  obtain ⟨a, w, rfl, g, q⟩ := h
  obtain rfl : v = Value.ref a := rx
  have ht := dict_typeIs I g
  unfold subscriptTail
  refine wpAny_bind ?_
  rw [getitemInPython_of_ne ht.not_modules]
  refine wpAny_bind (wpAny_specialOf ht PySem.F.slot_dict_getitem.lookup ?_)
  have z : wpAny (model X.prog X.w) X.A (subscripted slice false (.ref a) u) (fun r s3 => wpAny (model X.prog X.w) X.A (letTemporaryGo value (.ref a) r >>= fun _ => pure r) (EP X pins σ Q) X.xe s3) X.xe s := by
    rw [hs]
    exact wpAny_operating (d_getItem (by omega) I g ry fun w' s3 I3 rw' => wpAny_bind (wpAny_letTemporaryGo (wpAny_pure ⟨w, H, I3, rw', q⟩)))
  first
    | exact wpAny_pure (wpAny_bind z)
    | exact wpAny_bind (wpAny_pure (wpAny_bind z))
    | exact wpAny_bind z
theorem get_D (hu : X.A.units + 64 < cLine) : PGet X rDG := by
  intro pins s σ H o i ov iv Q I r1 r2 h
  obtain ⟨a, w, rfl, g, q⟩ := h
  obtain rfl : ov = Value.ref a := r1
  exact d_getItem (by omega) I g r2 fun w' s3 I3 rw' => ⟨w, H, I3, rw', q⟩
theorem op_inD' (hu : X.A.units + 64 < cLine) : OpR X (compareOp .In) rDI := by
  intro pins s σ H x y v u Q I rx ry h
  obtain ⟨a, o, rfl, g, q⟩ := h
  obtain rfl : u = Value.ref a := ry
  exact d_in (by omega) I g rx fun s3 I3 => ⟨.bl o.isSome, H, I3, rfl, q⟩
theorem op_notInD' (hu : X.A.units + 64 < cLine) : OpR X (compareOp .NotIn) rDNI := by
  intro pins s σ H x y v u Q I rx ry h
  obtain ⟨a, o, rfl, g, q⟩ := h
  obtain rfl : u = Value.ref a := ry
  exact d_notIn (by omega) I g rx fun s3 I3 => ⟨.bl (!o.isSome), H, I3, rfl, q⟩
theorem mt_get2 (hu : X.A.units + 64 < cLine) : MtR X "dict.get" rDG2 := by
  intro pins s σ H x xs v us Q I rx rxs h
  obtain ⟨a, y, z, o, rfl, rfl, g, q⟩ := h
  obtain rfl : v = Value.ref a := rx
  obtain ⟨u, w, rfl, ru, rw'⟩ := rxs.two
  exact d_get2 (by omega) I g ru rw' fun w' s3 I3 r3 => ⟨_, H, I3, r3, q⟩
theorem mt_get1 (hu : X.A.units + 64 < cLine) : MtR X "dict.get" rDG1 := by
  intro pins s σ H x xs v us Q I rx rxs h
  obtain ⟨a, y, o, rfl, rfl, g, q⟩ := h
  obtain rfl : v = Value.ref a := rx
  obtain ⟨u, rfl, ru⟩ := rxs.one
  exact d_get1 (by omega) I g ru fun w' s3 I3 r3 => ⟨_, H, I3, r3, q⟩
end
theorem now3 {K : Fr} {F H : Hp} {vs : List V} {d e f : PyData} (n : NowAll K F H vs [d, e, f]) : ∃ x y z, vs = [x, y, z] ∧ Now K F H x d ∧ Now K F H y e ∧ Now K F H z f := by
  match vs, n with
  | [x, y, z], ⟨a, b, c, _⟩ => exact ⟨x, y, z, rfl, a, b, c⟩
section
variable {K : Fr}
theorem d_ixD : OpD K (r2 rDG) oIxD := fun F H vs ds d o Q e n q k => by
  unfold oIxD at q
  split at q
  · split at q
    · rename_i z hz
      cases q
      obtain ⟨x, y, rfl, nx, ny⟩ := now2 n
      obtain ⟨a, ov, rfl, g, h | h⟩ := dAt_ok e nx ny hz
      · obtain ⟨v, w, rfl, h2, r⟩ := h
        cases h2
        exact ⟨_, _, rfl, a, v, rfl, g, k_old r k e⟩
      · cases h.2
    · cases q
  · cases q
theorem d_inD : OpD K (r2 rDI) oInD := fun F H vs ds d o Q e n q k => by
  unfold oInD at q
  split at q
  · obtain ⟨z, hz, q2⟩ := Option.map_eq_some_iff.mp q
    cases q2
    obtain ⟨y, x, rfl, ny, nx⟩ := now2 n
    obtain ⟨a, ov, rfl, g, h⟩ := dAt_ok e nx ny hz
    have : ov.isSome = z.isSome := by
      rcases h with ⟨v, w, rfl, rfl, _⟩ | ⟨rfl, rfl⟩ <;> rfl
    exact ⟨_, _, rfl, a, ov, rfl, g, by rw [this]; exact k_imm rfl k e⟩
  · cases q
theorem d_notInD : OpD K (r2 rDNI) oNotInD := fun F H vs ds d o Q e n q k => by
  unfold oNotInD at q
  split at q
  · obtain ⟨z, hz, q2⟩ := Option.map_eq_some_iff.mp q
    cases q2
    obtain ⟨y, x, rfl, ny, nx⟩ := now2 n
    obtain ⟨a, ov, rfl, g, h⟩ := dAt_ok e nx ny hz
    have : ov.isSome = z.isSome := by
      rcases h with ⟨v, w, rfl, rfl, _⟩ | ⟨rfl, rfl⟩ <;> rfl
    exact ⟨_, _, rfl, a, ov, rfl, g, by rw [this]; exact k_imm rfl k e⟩
  · cases q
theorem d_get2' : MeD K rDG2 oGet2 := fun F H x vs dx ds d o Q e nx ra q k => by
  unfold oGet2 at q
  split at q
  · rename_i he
    cases he
    obtain ⟨y, z, rfl, ry, rz⟩ := rp2 ra
    obtain ⟨w, hw, q2⟩ := Option.map_eq_some_iff.mp q
    cases q2
    obtain ⟨a, ov, rfl, g, h⟩ := dAt_ok e nx (.inl ry) hw
    refine ⟨a, y, z, ov, rfl, rfl, g, ?_⟩
    rcases h with ⟨v, w, rfl, rfl, r⟩ | ⟨rfl, rfl⟩
    · exact k_old r k e
    · exact k_old rz k e
  · cases q
theorem d_get1' : MeD K rDG1 oGet1 := fun F H x vs dx ds d o Q e nx ra q k => by
  unfold oGet1 at q
  split at q
  · rename_i he
    cases he
    obtain ⟨y, rfl, ry⟩ := rp1 ra
    obtain ⟨w, hw, q2⟩ := Option.map_eq_some_iff.mp q
    cases q2
    obtain ⟨a, ov, rfl, g, h⟩ := dAt_ok e nx (.inl ry) hw
    refine ⟨a, y, ov, rfl, rfl, g, ?_⟩
    rcases h with ⟨v, w, rfl, rfl, r⟩ | ⟨rfl, rfl⟩
    · exact k_old r k e
    · exact k_imm rfl k e
  · cases q
theorem u_dict : SetD K rSetD uDict := fun F H a c kv v dk dv c' Q e ob hF rk rv h k => by
  unfold uDict at h
  split at h
  · rename_i k0 hk
    split at h
    · rename_i kvs hd
      split at h
      · rename_i hz
        cases h
        obtain ⟨ks, x1, x2⟩ := ob_dK ob hd
        have := keyD_eq hk
        subst this
        cases kd_now (H := F) (.inl rk)
        have y := x2.put kE_kD k0 rv
        exact ⟨a, _, rfl, .k x1 (by rw [sizeLine_eq, x2.length]; exact hz), k _ (.dK upd_same y.rp y.keys)⟩
      · cases h
    · cases h
  · split at h
    · rename_i k0 hk
      split at h
      · rename_i kvs hd
        split at h
        · rename_i hz
          cases h
          obtain ⟨ks, x1, x2⟩ := ob_dT ob hd
          have := keyT_eq hk
          subst this
          obtain ⟨b, rfl, y1⟩ := td_now (H := F) (.inl rk)
          have y := x2.put kE_tD k0 rv
          exact ⟨a, _, rfl, .t x1 (e _ _ y1) (by rw [sizeLine_eq, x2.length]; exact hz), k _ (.dT upd_same y.rp y.keys)⟩
        · cases h
      · cases h
    · cases h
theorem d_lenD : OpD K (fun xs H Q => (∃ a kvs, xs = [V.ref a] ∧ H a = some (.dK kvs) ∧ Q (.int kvs.length) H) ∨ ∃ a kvs, xs = [V.ref a] ∧ H a = some (.dT kvs) ∧ Q (.int kvs.length) H) oLenD := fun F H vs ds d o Q e n q k => by
  unfold oLenD at q
  split at q
  · obtain ⟨x, rfl, nx⟩ := now1 n
    split at q
    · rename_i kvs hd
      cases q
      obtain ⟨a, ks, rfl, x1, x2⟩ := now_dK e nx hd
      exact .inl ⟨a, ks, rfl, x1, by rw [x2.length]; exact k_imm rfl k e⟩
    · obtain ⟨kvs, hd, q2⟩ := Option.map_eq_some_iff.mp q
      cases q2
      obtain ⟨a, ks, rfl, x1, x2⟩ := now_dT e nx hd
      exact .inr ⟨a, ks, rfl, x1, by rw [x2.length]; exact k_imm rfl k e⟩
  · cases q
end
end Py
end
section
set_option Elab.async false
set_option linter.all false
set_option maxRecDepth 100000
set_option maxHeartbeats 4000000
/-! An own exception whose __init__ says super().__init__(e) and self.f = v. -/
namespace Py
open PySem PySem.Spec PySem.Calls PyProof.Rows PySem.W
open L2 (V HO Hp upd upd_same upd_ne TE VK XK RelV Vals Mod)
section
variable {prog : Program} {w : World} {M : Model} {A : Around} {E : Value → Shared → Prop} {h : Heap} {g : Array GenState} {d : Drawn} {t : Nat} {os : OsState}
variable {nm q : Str} {C N : Addr} {bs bm : List Value} {hdct : Bool} {sn : List Str} {sub : List Value} {ab : Bool} {col : Option Bool} {dd : Option Addr} {k0 k1 k2 k3 k5 : Option Value}
/-- ValueError.__init__ bound to the exception, called -/
theorem call_mw {u e t0 : Addr} {rest : List Value} {Q : Value → Shared → Prop}
    (hC : h.get? C = some (excClassObj nm q C N bs bm hdct sn sub ab col dd k0 k1 k2 k3 k5 "ValueError.__new__")) (he : h.get? e = some (HandSPX.excO C t0)) (hu : h.get? u = some (kxs_mw "ValueError.__init__" e)) (hz : rest.length ≤ sizeLine)
    (k : ∀ h' t1, (∀ b o, b ≠ e → h.get? b = some o → h'.get? b = some o) → h'.get? e = some (HandSPX.excO C t1) → Q .none ⟨h', g, d, t, os⟩) :
    wpAny (model prog w) A (call (.ref u) rest) Q E ⟨h, g, d, t, os⟩ := by
  refine wpAny_call (codeAny_of_tree ?_)
  show wpAny _ A.in1 (callAny (.ref u) ⟨rest, []⟩) _ _ _
  simp only [callAny]
  refine wpAny_bind (wpAny_load hu ?_)
  simp only [kxs_mw, show (Value.type "method-wrapper" == Value.type "method" || Value.type "method-wrapper" == Value.type "builtin_function_or_method" || Value.type "method-wrapper" == Value.type "method-wrapper") = true by decide, if_true]
  refine W.KFB.if_so (by decide) ?_
  refine wpAny_bind (ESX.check_bound F.excBase_ValueError hC he rfl ?_)
  refine wpAny_bind (wpAny_pure (wpAny_pure ?_))
  refine ⟨Code.quiet_builtin _ (by decide +kernel), codeAny_builtin F.excBase_ValueError.initEntry ?_⟩
  rw [Around.under_plainId F.excBase_ValueError.init.plain _]
  wp_walk
  refine k _ h.objs.size (fun b o hb ho => ?_) ?_
  · rw [Heap.get?_update_other _ _ (Ne.symm hb)]
    exact Heap.get?_push_of_some _ ho
  · rw [Heap.get?_update_self _ (Heap.get?_push_of_some _ he) rfl]
    rfl
end
/-- what the written part says of the class at C, its __init__ at f, the cell, the code -/
structure IniK (K : Frag) (prog : Program) (C fI : Addr) (fld sn pn : Str) (ea : Expr) : Prop where
  ex : ∃ (oc cdv ct dV kV doc pm cl ccl : Value) (od an cld cdd : Option Addr) (osl csl ccs : Array (Option Value)) (name qual : Str) (params : Arguments) (scope : Scope) (cc cda : Addr) (cd : ClassData) (ar : PySem.Arg) (vs : Array Value) (file : Str) (tf : Tok) (p0 p1 pa pc pe ps pf pp pz : Pos),
    K.lookup fI = some ⟨oc, od, .func (ksFn name qual params [.Expr (.Call (.Attribute (.Call (.Name "super" p0) [] [] p1) "__init__" pa) [ea] [] pc) pe, .Assign [.Attribute (.Name sn ps) fld pf] (.Name pn pp) pz] scope dV kV doc pm an cdv ct cc), osl⟩ ∧
    codeIn K cdv qual = true ∧ cdv = .ref cda ∧ K.lookup cda = some ⟨ccl, cdd, .fields vs, ccs⟩ ∧ vs[2]? = some (.str file tf) ∧ ((prog.main.file : Str) == file) = true ∧ K.lookup cc = some ⟨cl, cld, .cell (some (.ref C)), csl⟩ ∧
    clsIn K C = some cd ∧ alongIn K "__init__" ((cd.mro.dropWhile (· != .ref C)).drop 1) = some (some (.builtin "ValueError.__init__")) ∧
    (params.posonlyargs ++ params.args).head? = some ar ∧ ar.arg = sn ∧ pn ≠ sn ∧ scope.names.lookup ("super" : Str) = some .globalImplicit ∧ scope.names.lookup ("__class__" : Str) = some .free ∧ scope.names.lookup sn = some .local ∧ scope.names.lookup pn = some .local ∧
    scope.kind = .function ∧ (∀ x ∈ scope.names, x.2 ≠ .cell) ∧ scope.isCoroutine = false ∧ scope.isGenerator = false ∧ (sn == ("__debug__" : Str)) = false ∧ (pn == ("__debug__" : Str)) = false ∧
    (∀ s a b, BindsTo s (ksFn name qual params [.Expr (.Call (.Attribute (.Call (.Name "super" p0) [] [] p1) "__init__" pa) [ea] [] pc) pe, .Assign [.Attribute (.Name sn ps) fld pf] (.Name pn pp) pz] scope dV kV doc pm an cdv ct cc) ⟨[a, b], []⟩ [(sn, a), (pn, b)]) ∧
    (∀ env, swapsWith (.Name pn pp) (some (.Attribute (.Name sn ps) fld pf)) pz.line env = pure false) ∧ (∀ env, swapsWith (.Call (.Attribute (.Call (.Name "super" p0) [] [] p1) "__init__" pa) [ea] [] pc) none pe.line env = pure false) ∧
    (∀ env, starEach [ea] env = [(false, eval ea env)]) ∧
    (∀ env, env.kindOf "super" = some .globalImplicit → eval (.Call (.Attribute (.Call (.Name "super" p0) [] [] p1) "__init__" pa) [ea] [] pc) env = (do
      let ov ← attributeBase (.Call (.Name "super" p0) [] [] p1) "__init__" env (eval (.Call (.Name "super" p0) [] [] p1) env)
      standAt pa.atName
      let (f, first) ← holding [ov] (getMethod ov "__init__" (pure false))
      callWith pc f first (backTo pc (starEach [ea] env)) []))
/-- the text of the message: made of the parameter's value, nothing else is touched -/
def MsgOk (prog : Program) (w : World) (ea : Expr) (pn : Str) (u : Value) : Prop := ∀ (A : Around) (E : Value → Shared → Prop) (env : Env) (s : Shared) (m : Str → Option Value) (Q : Value → Shared → Prop),
  env.scope.kind = .function → env.kindOf pn = some .local → s.heap.Ns env.locals m → m pn = some u → (∀ v tk, Q v { s with toks := tk }) → wpAny (model prog w) A (eval ea env) Q E s
section
variable {prog : Program} {w : World} {A : Around} {K : Frag} {C fI x t1 : Addr} {fld sn pn : Str} {ea : Expr} {u : Value} {mg : Str → Option Value} {R : Result → Shared → Prop} {hp : Heap} {g : Array GenState} {d : Drawn} {t : Nat} {os : OsState}
theorem init_raw (J : IniK K prog C fI fld sn pn ea) (T : L2.OexC K C) (X : K.In hp) (lim : hp.NoLimit) (MG : hp.Ns mainGlobals mg) (hms : mg "super" = none) (MB : ∃ mb, hp.Ns builtinsNs mb ∧ ∀ x : Str, x ≠ "__name__" → mb x = bootBuiltins x)
    (hop : nsIn K cStatics "thirdparty.any" = some none) (hsub : mroIn K C (.ref C) = some true) (hB : subIn K (.ref C) (.type "ValueError") = some true) (hno : findIn K (.ref C) fld = some none) (htop : (prog.main.scope.names.lookup ("super" : Str)).isSome = false)
    (hroom : A.depth < recursionLimit) (hx : hp.get? x = some (HandSPX.excO C t1)) (hxC : x ≠ C) (hxK : K.lookup x = none) (msg : MsgOk prog w ea pn u)
    (k : ∀ h' tk dx t2, (∀ b o, b ≠ x → hp.get? b = some o → h'.get? b = some o) → hp.objs.size ≤ dx → dx ≠ x → h'.get? x = some { cls := .ref C, dict := some dx, data := .fields #[.ref t2, .none, .none, .none, .bool false, .none] } →
      h'.Ns1 dx (fun y => if y = fld then some u else none) → R (.ok (.ret .none)) ⟨h', g, d, tk, os⟩) :
    codeAny (model prog w) A (.call (.ref fI) ⟨[.ref x, u], []⟩) R ⟨hp, g, d, t, os⟩ := by
  obtain ⟨oc, cdv, ct, dV, kV, doc, pm, cl, ccl, od, an, cld, cdd, osl, csl, ccs, name, qual, params, scope, cc, cda, cd, ar, vs, file, tf, p0, p1, pa, pc, pe, ps, pf, pp, pz, hf, hcd, rfl, hcode, hvs, hfile, hcell, hcl, hal, hhd, har, hne, hks, hkc, hka, hkp, hkf, hnc, hco, hgen, hd1, hd2, hbind, hsw, hsw2, hst, hev⟩ := J.ex
  obtain ⟨nmC, qC, NC, bsC, bmC, snC, subC, abC, colC, ddC, k0, k1, k2, k3, k5, hC, hbm⟩ := T.cls
  refine ks_codeAny_call_defAt (fd := ksFn name qual params _ scope dV kV doc pm an (.ref cda) ct cc) (binds := [(sn, .ref x), (pn, u)]) hroom (X _ _ hf) rfl lim (codeRec_of X hcd) rfl (hbind _ _ _) hnc (fun y hy => ?_) (fun h₀ hns hk => ?_) hco hgen hkf
  · rcases List.mem_cons.mp hy with rfl | hy
    · exact hka
    · rcases List.mem_cons.mp hy with rfl | hy
      · exact hkp
      · cases hy
  · have X0 : K.In h₀ := X.keeps hk
    have hx0 := hk _ _ hx
    have m1 : ([(sn, Value.ref x), (pn, u)].reverse.lookup sn) = some (.ref x) := by
      simp [List.lookup, Ne.symm hne, beq_eq_false_iff_ne.mpr (Ne.symm hne)]
    have m2 : ([(sn, Value.ref x), (pn, u)].reverse.lookup pn) = some u := by
      simp [List.lookup]
    have x1 : ∀ b o, b ≠ x → hp.get? b = some o → h₀.get? b = some o := fun b o _ e => hk b o e
    have hD : h₀.get? C = some (excClassObj nmC qC C NC bsC bmC true snC subC abC colC ddC k0 k1 k2 k3 k5 "ValueError.__new__") := X0 _ _ hC
    obtain ⟨oD, hD1, hD2⟩ : ∃ oD, h₀.get? C = some oD ∧ oD.data = .cls cd := by
      unfold clsIn at hcl
      split at hcl
      · rename_i c d cd' sl ho
        cases hcl
        exact ⟨_, X0 _ _ ho, rfl⟩
      · cases hcl
    refine ks_wpAt_execs_cons (ks_wpAt_Expr_any ?_ (by simp [interactive, callEnv, newEnv, Env.blockKind, hkf]) (hsw2 _))
    refine ks_wpAt_MethodCall ?_ (hev _ hks)
    refine ks_wpAt_super_base (f := fI) (cc := cda) hks hkc (by decide) rfl (X0 _ _ hf) rfl hhd rfl (X0 _ _ hcode) rfl hvs hfile htop ?_
    obtain ⟨mb, B1, B2⟩ := MB
    refine ks_loadName_global hkf hks (loadGlobal_builtin (env := callEnv (ksFn name qual params _ scope dV kV doc pm an (.ref cda) ct cc) hp.objs.size fI) (MG.keeps hk) hms (B1.keeps hk) ((B2 _ (by decide)).trans (by decide +kernel : bootBuiltins "super" = some (.type "super"))) ⟨rfl, ?_⟩)
    refine wpAny_loadName_free hkf hkc rfl ⟨_, X0 _ _ hcell, rfl⟩ ?_
    rw [har]
    refine wpAny_loadName_local hkf hka hns m1 ?_
    refine ks_wpAny_isType_cls hD1 hD2 ⟨rfl, ?_⟩
    have hxcls : (HandSPX.excO C t1).cls = .ref C := rfl
    refine ks_wpAny_call_super hD1 hD2 hx0 hxcls (fun c e => (by cases e)) (looks_mroIn X0 hsub) (fun h1 e1 c1 => ?_)
    have X1 : K.In h1 := X0.keeps c1
    have hx1 := c1 _ _ hx0
    have I1 : InstAt h1 x (HandSPX.excO C t1) C none := ⟨hx1, rfl, rfl, trivial⟩
    refine kxs_getMethod kxs_ValueError e1 (looks_opaque X1 hop) (l₀ := cd.mro) (fun A Q E s k q => wpAny_bind ((looks_clsIn X1 hcl) A _ E s k (wpAny_pure q))) rfl X1 hal (I1.type.andThen (looks_subIn X1 hB)) hxC (by decide) ?_
    have hu2 : (h1.push (kxs_mw "ValueError.__init__" x)).get? h1.objs.size = some (kxs_mw "ValueError.__init__" x) := Heap.get?_push_size _ rfl
    have c2 : ∀ b o, h1.get? b = some o → (h1.push (kxs_mw "ValueError.__init__" x)).get? b = some o := fun b o e => Heap.get?_push_of_some _ e
    have hns2 := (hns.keeps c1).keeps c2
    rw [hst]
    refine kxs_callWith (i := "ValueError.__init__") (x := x) (by rfl) ?_
    refine evalArgs_plain (spliced_cons (msg _ _ _ _ _ _ hkf hkp hns2 m2 fun v tk => spliced_nil ?_))
    refine ⟨hu2, ?_⟩
    refine call_mw (X1.keeps c2 _ _ hC) (c2 _ _ hx1) hu2 (by simp [sizeLine_eq]) fun h3 t3 c3 hx3 => ?_
    have hxlt : x < hp.objs.size := Heap.lt_size hx
    have hns3 := hns2.at fun o e => c3 _ o (Nat.ne_of_gt hxlt) e
    have X3 : K.In h3 := fun b o e => c3 b o (fun z => by rw [z, hxK] at e; cases e) (X1.keeps c2 _ _ e)
    have hcl2 : clsIn K C = some { name := nmC, bases := bsC, mro := .ref C :: bmC, ns := NC, qualname := qC, hasDict := true, slotNames := snC, subclasses := subC, abstract := abC, collection := colC, hasDel := false } := by unfold clsIn; rw [hC] <;> rfl
    refine ks_wpAt_execs_cons (ks_wpAt_Assign_Attr ?_ (hsw _))
    refine wpAt_of_wpAny (wpAny_Name (wpAny_loadName_local hkf hkp hns3 m2 ?_) hd2)
    refine wpAny_Name (wpAny_loadName_local hkf hka hns3 m1 ?_) hd1
    refine set_plain X3 (ox := HandSPX.excO C t3) (od := none) ⟨hx3, rfl, rfl, trivial⟩ T.sa ?_
    refine HandSPX.exc_osa X3 hx3 hcl2 (show HandSPX.refsVE (.ref C :: bmC) = true from hbm) rfl hno (fun h' tk' dx k' dn dne hx' hn => ?_)
    have kk : ∀ b o, b ≠ x → hp.get? b = some o → h'.get? b = some o := fun b o hb e => k' b o hb (c3 b o hb (c2 _ _ (c1 _ _ (hk _ _ e))))
    have le : hp.objs.size ≤ dx := by
      obtain ⟨oL, _, _, hoL, _⟩ := id hns
      have z1 := Heap.lt_size (c3 _ _ (Nat.ne_of_gt hxlt) (c2 _ _ (c1 _ _ hoL)))
      exact Nat.le_trans (Nat.le_of_lt z1) dn
    show PySem.wpAt _ _ _ (execs [] _) _ _ _
    refine PySem.wpAt_of_wpAny (wpAny_execs_nil ?_)
    exact k h' tk' dx t3 kk le dne hx' hn
end
end Py
end
section
set_option Elab.async false
set_option linter.all false
set_option maxRecDepth 100000
set_option maxHeartbeats 4000000
/-! raise C(e) of such a class. -/
namespace Py
open PySem PySem.Spec PyProof.Rows L2
/-- all that is told of such a class -/
structure Sup (K : Fr) (prog : Program) (mg : Str → Option Value) (x : Str) (C fI : Addr) (fld sn pn : Str) (ea : Expr) : Prop where
  T : OexC K C
  J : IniK K prog C fI fld sn pn ea
  iC : PySem.W.findIn K (.ref C) "__init__" = some (some (.ref fI))
  tI : PySem.W.typeIn K (.ref fI) = some (.type "function")
  hop : PySem.W.nsIn K cStatics "thirdparty.any" = some none
  hsub : PySem.W.mroIn K C (.ref C) = some true
  hB : PySem.W.subIn K (.ref C) (.type "ValueError") = some true
  hno : PySem.W.findIn K (.ref C) fld = some none
  htop : (prog.main.scope.names.lookup ("super" : Str)).isSome = false
  hms : mg "super" = none
  hm : mg x = some (.ref C)
def tSup (prog : Program) (w : World) (C : Addr) (fld pn : Str) (ea : Expr) (te : TE) : L2.St → Hp → XK → Prop := fun σ H Q => te σ H fun v H1 => (∀ u, RelV v u → MsgOk prog w ea pn u) ∧ ∀ dx, H1 dx = none → Q (.ref C) (some dx) (upd H1 dx (.xd [(fld, v)]))
theorem pmk_sup {X : Cx} {x : Str} {C fI : Addr} {k : Nat} {fld sn pn : Str} {ea e : Expr} {te : TE} {p pos : Pos} (S : Sup X.K X.prog X.mg x C fI fld sn pn ea) (hr : Room (k + 1) X.A) (hg : Gl X x) (he : PE X e te)
    (hdb : (x == ("__debug__" : Str)) = false := by decide) (hs : starEach [e] X.env = (false, eval e X.env) :: starEach [] X.env := by rfl) (hpl : (backTo pos (starEach [] X.env)).any (·.1) = false := by rfl) :
    PMk X (.Call (.Name x p) [e] [] pos) (tSup X.prog X.w C fld pn ea te) := by
  intro pins s σ H Q I h
  have T := S.T
  obtain ⟨nm, q, N, bs, bm, sn, sub, ab, col, dd, k0, k1, k2, k3, k5, hC, hbm⟩ := T.cls
  refine wpAny_Call_Name_kw (ld_glob I hg S.hm ?_ hdb)
  refine PySem.W.callWith_K (h₀ := X.base) I.ok.mod.kin T.kC (thn ((pa_cons he pa_nil hs).run pos pins s σ H (fun vs H1 => match vs with
    | [v] => (∀ u, RelV v u → MsgOk X.prog X.w ea pn u) ∧ ∀ dx, H1 dx = none → Q (.ref C) (some dx) (upd H1 dx (.xd [(fld, v)]))
    | _ => False) I ?_) fun us s1 ⟨vs, H1, I1, r1, q1⟩ => ⟨I1.kIn, ?_⟩) hs hpl
  · exact h
  · show wpAny _ _ (call (.ref C) us) _ _ _
    cases vs with
    | nil => exact False.elim q1
    | cons v vs =>
      cases vs with
      | cons _ _ => exact False.elim q1
      | nil =>
        obtain ⟨msg, q1⟩ := q1
        obtain ⟨u, rfl, ru⟩ := r1.one
        obtain ⟨hp, g, dr, tk, os⟩ := s1
        have hsz : hp.objs.size ≤ hp.objs.size + 1 := Nat.le_succ _
        have kk : ∀ b o, hp.get? b = some o → ((hp.push (PySem.W.kdv_tup [u])).push (PySem.HandSPX.excO C hp.objs.size)).get? b = some o := fun b o e => Heap.get?_push_of_some _ (Heap.get?_push_of_some _ e)
        have hget : ((hp.push (PySem.W.kdv_tup [u])).push (PySem.HandSPX.excO C hp.objs.size)).get? (hp.objs.size + 1) = some (PySem.HandSPX.excO C hp.objs.size) := by heap_get
        have KI : X.K.In hp := I1.kIn
        have hxK : X.K.lookup (hp.objs.size + 1) = none := by
          cases z : X.K.lookup (hp.objs.size + 1) with
          | none => rfl
          | some o => exact absurd (Heap.lt_size (KI _ _ z)) (Nat.not_lt.mpr (Nat.le_succ _))
        have hxC : hp.objs.size + 1 ≠ C := fun z => by rw [z, hC] at hxK; cases hxK
        obtain ⟨mb, B1, B2⟩ := I1.mod.blt
        refine wpAny_call (PySem.HandSPX.call_own F.excBase_ValueError (fun Y => PySem.HandSPX.refsVE_contains Y bm hbm) (KI _ _ hC) (PySem.W.looks_findIn KI S.iC) (fun self => PySem.W.bind_fn KI self S.tI) (by simp [sizeLine_eq])
          (init_raw S.J T (KI.keeps kk) ((I1.mod.nolimit.keeps I1.bk).keeps kk) ((I1.mod.glob.keeps I1.bk).keeps kk) S.hms ⟨mb, (B1.keeps I1.bk).keeps kk, B2⟩ S.hop S.hsub S.hB S.hno S.htop (hr.make C [u] []).depth hget hxC hxK (msg u ru) fun h' tk' dx t2 k' le ne hx' hn => ?_))
        obtain ⟨G, g1', g2'⟩ := restrict h' fun b => decide (b ≠ hp.objs.size + 1)
        have gk : ∀ b, b ≠ hp.objs.size + 1 → G.get? b = h'.get? b := fun b hb => g1' b (decide_eq_true hb)
        have ge : G.get? (hp.objs.size + 1) = none := g2' _ (by simp)
        have le2 : hp.objs.size ≤ dx := by
          have : ((hp.push (PySem.W.kdv_tup [u])).push (PySem.HandSPX.excO C hp.objs.size)).objs.size = hp.objs.size + 1 + 1 := by rw [Heap.size_push, Heap.size_push]
          omega
        have old : ∀ b o, hp.get? b = some o → G.get? b = some o := fun b o e => by
          have hb := Heap.lt_size e
          have hne : b ≠ hp.objs.size + 1 := Nat.ne_of_lt (Nat.lt_of_lt_of_le hb (Nat.le_succ _))
          rw [gk b hne]
          exact k' b o hne (kk _ _ e)
        have J : Inv X pins σ (upd H1 dx (.xd [(fld, v)])) ⟨G, g, dr, tk', os⟩ := I1.laid (t' := tk') (h' := G) old le2 ⟨_, hn.at fun o y => (gk dx ne).trans y, relO_put (fs := []) ru fun _ => True.intro⟩
        refine ⟨rfl, ⟨hp.objs.size + 1, _, _, ⟨G, g, dr, tk', os⟩, _, .ref C, some dx, rfl, J, fun b o z => ?_, ge, hx', ⟨rfl, rfl⟩, rfl, rfl, ?_, rfl, I1.bare, raises_own T.exC T.tyC, q1 dx (I1.hok.fresh le2)⟩⟩
        · by_cases hb : b = hp.objs.size + 1
          · rw [hb, ge] at z; cases z
          · exact (gk b hb).symm.trans z
        · rw [upd_ne (Ne.symm ne)]
          exact I1.hok.fresh (Nat.le_succ _)
end Py
end
section
set_option Elab.async false
set_option linter.all false
set_option maxRecDepth 100000
set_option maxHeartbeats 4000000
/-! raise as a statement. -/
namespace Py
open PySem PySem.Spec PyProof.Rows L2
section
variable {K : Fr} {T : List Addr} {W : WX}
theorem xd_rel {G F : Hp} {L : List (Nat × Addr)} {σ : L2.St} {H : Hp} {e : Nv} (r : Rel K T G F L σ H e) {dx : Addr} {u : HO} (hn : H dx = none) : Rel K T G F L σ (upd H dx u) e :=
  r.grow (Ext.refl F) (r.fH.trans (Ext.upd hn)) (Ext.upd hn) fun a w z => .inl ⟨w, z⟩
end
section
variable {X : Cx} {T : List Addr} {W : WX} {pos p pos2 : Pos} {k : Nat} {e : Expr} {f : EV} {c : String} {ok : PyData → Bool} {C fI : Addr} {sn pn : Str} {ea : Expr} {cs : Str}
/-- raise c(e), c an own class whose __init__ says super().__init__(..) and self.f = v -/
theorem ss_raiseS (S : Sup X.K X.prog X.mg (Str.ofString c) C fI (fldN c) sn pn ea) (hC : C = He.ga X.K (Str.ofString c)) (hcm : X.calm = true) (hr : Room (k + 1) X.A) (tk : Takes X W) (hg : Gl X (Str.ofString c)) (he : SE X T W e f)
    (hok : ∀ d, ok d = true → ∀ F v u, Rp X.K F v d → RelV v u → MsgOk X.prog X.w ea pn u) (hdb : (Str.ofString c == ("__debug__" : Str)) = false := by decide) (hs : starEach [e] X.env = (false, eval e X.env) :: starEach [] X.env := by rfl) (hpl : (backTo pos (starEach [] X.env)).any (·.1) = false := by rfl) :
    SS X T W (.Raise (some (.Call (.Name (Str.ofString c) p) [e] [] pos)) none pos2) (sRaise c ok f) :=
  PS.mono (ps_raise hcm tk (pmk_sup S hr hg he hdb hs hpl)) fun D σ H q => by
    obtain ⟨G, F, L, ev, r, q⟩ := q
    refine ⟨G, F, L, ev, r, ?_⟩
    have q : fQ X.K T W (bnd (f ev) fun p => if ok p.1 then .ex c p.1 p.2.2 else .bad) G F L D := q
    cases h : f ev with
    | bad => rw [h] at q; exact q
    | ex c' d e' => rw [h] at q; exact fun u dx H' F' x r' v => q u dx σ H' F' x r' v
    | ok z =>
      obtain ⟨d, o, e1⟩ := z
      rw [h] at q
      simp only [bnd_ok] at q
      intro v H1 F1 x1 r1 vr
      obtain ⟨F2, x2, r2, rp⟩ := r1.still vr
      split at q
      · rename_i hk
        refine ⟨fun u ru => hok d hk F2 v u rp ru, fun dx hn => ?_⟩
        refine q _ (some dx) σ _ F2 (x1.trans x2) (xd_rel r2 hn) ⟨by rw [hC], .inr ⟨dx, v, rfl, upd_same, rp⟩⟩
      · exact False.elim q
/-- raise c('..') -/
theorem ss_raise0 {m : Str} {j : Nat} {p2 : Pos} (q : PySem.W.excIn X.K (He.ga X.K (Str.ofString c)) He.veBase "ValueError.__new__" = true) (gC : X.mg (Str.ofString c) = some (.ref (He.ga X.K (Str.ofString c)))) (kC : PySem.W.keepIn X.K (.ref (He.ga X.K (Str.ofString c))) = true)
    (h1 : PySem.W.subIn X.K (.ref (He.ga X.K (Str.ofString c))) (.type "BaseException") = some true) (h2 : PySem.W.typeIn X.K (.ref (He.ga X.K (Str.ofString c))) = some (.type "type")) (hcm : X.calm = true) (tk : Takes X W) (hg : Gl X (Str.ofString c)) (hdb : (Str.ofString c == ("__debug__" : Str)) = false := by decide) :
    SS X T W (.Raise (some (.Call (.Name (Str.ofString c) p) [.Constant (.str m) j p2] [] pos)) none pos2) (sRaise0 c) :=
  PS.mono (ps_raise hcm tk (pmk_own F.excBase_ValueError q gC kC (raises_own h1 h2) hg hdb)) fun D σ H q => by
    obtain ⟨G, F, L, ev, r, q⟩ := q
    exact q _ none σ H F (Ext.refl F) r ⟨rfl, .inl ⟨rfl, rfl⟩⟩
theorem small_text : ∀ n : Nat, n < 100 → (Str.ofString (toString (n : Int))).length ≤ 10 := by decide +kernel
/-- a number whose text is short -/
def okI : PyData → Bool
  | .int i => decide (0 ≤ i) && decide (i < 100)
  | _ => false
/-- the text '..{x}' with x a small number -/
theorem msg_int {prog : Program} {w : World} {pn m : Str} {j : Nat} {p1 p2 p3 p4 : Pos} (hm : m.length ≤ 1000) (hd : (pn == ("__debug__" : Str)) = false) : ∀ d, okI d = true → ∀ (K : Fr) F v u, Rp K F v d → RelV v u →
    MsgOk prog w (.JoinedStr [.Constant (.str m) j p1, .FormattedValue (.Name pn p2) (-1) none p3] p4) pn u := by
  intro d hk K F v u rp ru
  unfold okI at hk
  split at hk
  · rename_i i
    rw [Bool.and_eq_true, decide_eq_true_eq, decide_eq_true_eq] at hk
    cases rp
    obtain ⟨t, rfl⟩ := ru
    obtain ⟨n, rfl⟩ := Int.eq_ofNat_of_zero_le hk.1
    have hn := small_text n (by omega)
    have hl : (Int.natAbs (n : Int)).log2 < 1920 := by
      have : n.log2 ≤ n := Nat.log2_le_self n
      simp only [Int.natAbs_natCast]
      omega
    intro A E env s m' Q hkd hlo hn2 hv k
    have z0 : (Str.empty ++ m).length ≤ sizeLine := by rw [strLen_append, sizeLine_eq]; show (0 + m.length) ≤ _; omega
    have z1 : ((Str.empty ++ m) ++ Str.ofString (toString (n : Int))).length ≤ sizeLine := by rw [strLen_append, strLen_append, sizeLine_eq]; show (0 + m.length + _) ≤ _; omega
    refine JoinedStr_many (joinParts_cons (Calls.Constant_str ⟨z0, joinParts_cons (FormattedValue_plain (wpAny_Name (wpAny_loadName_local hkd hlo (hn2.keeps fun _ _ e => e) hv (formatField_int_small hl ⟨z1, joinParts_nil ?_ z1⟩)) hd))⟩))
    exact k _ _
  · cases hk
end
end Py
end
section
set_option Elab.async false
set_option linter.all false
set_option maxRecDepth 100000
set_option maxHeartbeats 4000000
/-! Displays, list(range), isinstance, sets. -/
namespace Py
open PySem PySem.Spec PyProof.Rows L2

/-- an operation on values that never change -/
def eVs (h : Op) (fs : List EV) : EV := fun e => bnd (evV fs e) fun p => match h p.1 with
  | some (d, o) => .ok (d, o, p.2)
  | none => .bad
def OpV (K : Fr) (r : List V → Hp → VK → Prop) (h : Op) : Prop := ∀ (F H : Hp) (vs : List V) (ds : List PyData) (d : PyData) (o : Bool) (Q : VK), Ext F H → RpAll K F vs ds → h ds = some (d, o) →
  (∀ v H' F', Ext F F' → Ext F' H' → Ext H H' → (∀ a u, F' a = some u → (∃ u, F a = some u) ∨ H a = none) → NewV K F' H H' v d o → Q v H') → r vs H Q
section
variable {K : Fr} {T : List Addr} {W : WX}
theorem opv_ok {r : List V → Hp → VK → Prop} {h : Op} (o : OpV K r h) (fs : List EV) {σ : L2.St} {H : Hp} {Q : VK} (q : tE K T W (eVs h fs) σ H Q) : tAs (fs.map (tE K T W)) σ H fun vs H1 => r vs H1 Q := by
  obtain ⟨G, F, L, e, rel, q⟩ := q
  refine evV_evO fs rel ?_
  have q : tQ K T W σ (bnd (evV fs e) fun p => match h p.1 with
    | some (d, o) => .ok (d, o, p.2)
    | none => .bad) G F L Q := q
  cases h1 : evV fs e with
  | bad => rw [h1] at q; exact q
  | ex c d e' => rw [h1] at q; exact q
  | ok p =>
    rw [h1] at q
    simp only [bnd_ok] at q
    intro vs H' F' x r' n
    cases h2 : h p.1 with
    | none => rw [h2] at q; exact False.elim q
    | some z =>
      obtain ⟨d, b⟩ := z
      rw [h2] at q
      refine o F' H' vs p.1 d b Q r'.fH n h2 fun v H2 F2 y1 y2 y3 y4 nv => ?_
      exact q v H2 F2 (x.trans y1) (r'.grow y1 y2 y3 y4) (newV_vr r' nv)
end
def oTup : Op := fun ds => if ds.length ≤ 16777216 then some (.tuple ds, false) else none
def oLst : Op := fun ds => if ds.length ≤ 16777216 then some (.list ds, true) else none
section
variable {K : Fr}
theorem v_tup : OpV K (fun xs H Q => xs.length ≤ sizeLine ∧ ∀ p, H p = none → Q (.ref p) (upd H p (.tup xs))) oTup := fun F H vs ds d o Q e n q k => by
  unfold oTup at q
  split at q
  · rename_i c
    cases q
    exact ⟨by rw [sizeLine_eq, n.length]; exact c, fun p hp => k_tup n k e p hp⟩
  · cases q
theorem v_lst : OpV K (fun xs H Q => xs.length ≤ sizeLine ∧ ∀ p, H p = none → Q (.ref p) (upd H p (.lst xs))) oLst := fun F H vs ds d o Q e n q k => by
  unfold oLst at q
  split at q
  · rename_i c
    cases q
    exact ⟨by rw [sizeLine_eq, n.length]; exact c, fun p hp => k_lst n k e p hp⟩
  · cases q
end
section
variable {X : Cx} {T : List Addr} {W : WX} {pos p p2 : Pos} {es : List Expr} {fs : List EV}
theorem se_tup {k : Nat} (h : SVs X T W es fs) : SE X T W (.Tuple es k pos) (eVs oTup fs) := PE.mono (pe_tup h) fun _ _ _ => opv_ok v_tup fs
theorem se_lst (h : SVs X T W es fs) : SE X T W (.List es pos) (eVs oLst fs) := PE.mono (pe_lst h) fun _ _ _ => opv_ok v_lst fs
/-- {} with keys that are numbers or texts; that are tuples -/
def eNewK : EV := fun e => .ok (.dict [], true, e)
def eNewT : EV := fun e => .ok (.dict [(.none, .none)], true, e)
theorem se_newK : SE X T W (.Dict [] [] pos) eNewK := PE.mono pe_dnewK fun σ H Q q p hp => by
  obtain ⟨G, F, L, e, r, q⟩ := q
  have hF := r.fH.none hp
  exact q _ _ F (Ext.refl F) (r.grow (Ext.refl F) (r.fH.trans (Ext.upd hp)) (Ext.upd hp) fun a u z => .inl ⟨u, z⟩) (newV_vr r ⟨p, rfl, hp, hF, .dK upd_same .nil rfl⟩)
theorem se_newT : SE X T W (.Dict [] [] pos) eNewT := PE.mono pe_dnewT fun σ H Q q p hp => by
  obtain ⟨G, F, L, e, r, q⟩ := q
  have hF := r.fH.none hp
  exact q _ _ F (Ext.refl F) (r.grow (Ext.refl F) (r.fH.trans (Ext.upd hp)) (Ext.upd hp) fun a u z => .inl ⟨u, z⟩) (newV_vr r ⟨p, rfl, hp, hF, .dT upd_same .nil rfl⟩)
end

/-! ### {k: v, ..} -/
def flatP : List (EV × EV) → List EV
  | [] => []
  | (k, v) :: r => k :: v :: flatP r
def unflat : List PyData → Option Kvs
  | [] => some []
  | k :: v :: r => if (keyD k).isSome then (unflat r).map ((k, v) :: ·) else none
  | _ => none
def mergeD (kvs : Kvs) : Kvs := kvs.foldl (fun acc p => dS acc p.1 p.2) []
def eDisp (ps : List (EV × EV)) : EV := fun e => bnd (evV (flatP ps) e) fun p => match unflat p.1 with
  | some kvs => if kvs.length ≤ 15 then .ok (.dict (mergeD kvs), true, p.2) else .bad
  | none => .bad
section
variable {K : Fr} {T : List Addr} {W : WX}
def pairV : List V → List (V × V)
  | x :: y :: r => (x, y) :: pairV r
  | _ => []
theorem tPairs_of : ∀ (ps : List (EV × EV)) {σ : L2.St} {H : Hp} {Q : List (V × V) → Hp → Prop}, tAs ((flatP ps).map (tE K T W)) σ H (fun vs H1 => vs.length = 2 * ps.length → Q (pairV vs) H1) → tPairs (ps.map fun p => (tE K T W p.1, tE K T W p.2)) σ H Q
  | [], σ, H, Q, h => h rfl
  | (k, v) :: r, σ, H, Q, h => by
    show tE K T W k σ H fun x H1 => tE K T W v σ H1 fun y H2 => tPairs _ σ H2 fun ps H3 => Q ((x, y) :: ps) H3
    have h : tE K T W k σ H fun x H1 => tE K T W v σ H1 fun y H2 => tAs ((flatP r).map (tE K T W)) σ H2 fun vs H3 => (x :: y :: vs).length = 2 * (r.length + 1) → Q (pairV (x :: y :: vs)) H3 := h
    refine tE_mono (fun x H1 h => tE_mono (fun y H2 h => tPairs_of r (tAs_mono (flatP r) (fun vs H3 h e => ?_) h)) h) h
    exact h (by simp only [List.length_cons]; omega)
theorem ents_unflat {F : Hp} : ∀ {ds : List PyData} {kvs : Kvs} {vs : List V}, unflat ds = some kvs → RpAll K F vs ds → ∃ ks : List (Key × V), pairV vs = ks.map (fun kv => (kV kv.1, kv.2)) ∧ Ents K F kD ks kvs
  | [], kvs, vs, h, r => by cases h; cases r; exact ⟨[], rfl, .nil⟩
  | [_], kvs, vs, h, r => by cases h
  | k :: v :: rest, kvs, vs, h, r => by
    unfold unflat at h
    split at h
    · rename_i hk
      obtain ⟨z, h1, h2⟩ := Option.map_eq_some_iff.mp h
      cases h2
      obtain ⟨k0, hk0⟩ := Option.isSome_iff_exists.mp hk
      have := keyD_eq hk0
      subst this
      cases r with
      | cons a b =>
        cases b with
        | cons b c =>
          obtain ⟨ks, e1, e2⟩ := ents_unflat h1 c
          cases kd_now (H := F) (.inl a)
          exact ⟨(k0, _) :: ks, by simp [pairV, e1], .cons b e2⟩
    · cases h
theorem Ents.merge {F : Hp} : ∀ {ms : List (Key × V)} {mvs : Kvs} {ks : List (Key × V)} {kvs : Kvs}, Ents K F kD ms mvs → Ents K F kD ks kvs → Ents K F kD (mergeK ks ms) (mvs.foldl (fun acc p => dS acc p.1 p.2) kvs)
  | _, _, _, _, .nil, h => h
  | (k, v) :: ms, (_, d) :: mvs, ks, kvs, .cons a b, h => Ents.merge (ms := ms) (mvs := mvs) b (h.put kE_kD k a)
theorem disp_ok {ps : List (EV × EV)} {σ : L2.St} {H : Hp} {Q : VK} (q : tE K T W (eDisp ps) σ H Q) : tDisp (ps.map fun p => (tE K T W p.1, tE K T W p.2)) σ H Q := by
  intro p hp
  obtain ⟨G, F, L, e, r, q⟩ := q
  have hF := r.fH.none hp
  have hG := r.gH.none hp
  have hT : ∀ P ∈ T, P ≠ p := fun P hP z => by
    obtain ⟨⟨_, t, _⟩, _⟩ := r.tb P hP
    rw [z, hp] at t; cases t
  have hs : ∀ i d t, gt e i = some (d, t) → (t = .own ∨ t = .io) → σ[i]? ≠ some (some (.ref p)) := fun i d t h w z => by
    obtain ⟨a, x1, x2, _⟩ := own_at r h w
    rw [z] at x1; cases x1
    obtain ⟨u, y⟩ := x2.there
    rw [hp] at y; cases y
  have hL : ∀ i, (i, p) ∉ L := fun i m => by
    obtain ⟨x1, d, x2⟩ := r.pin i p m
    rcases x2 with x2 | x2
    · exact hs i d _ x2 (.inr rfl) x1
    · obtain ⟨a, _, y1, y2⟩ := r.lk i d x2
      rw [x1] at y1; cases y1
      obtain ⟨u, y⟩ := y2.there
      rw [hG] at y; cases y
  have r1 : Rel K T G F L σ (upd H p (.dK [])) e := r.grow (Ext.refl F) (r.fH.trans (Ext.upd hp)) (Ext.upd hp) fun a u z => .inl ⟨u, z⟩
  have r2 := r1.addG (u := .dK []) upd_same hG hF hT hs
  refine tPairs_of ps (evV_evO (flatP ps) r2 ?_)
  have q : tQ K T W σ (bnd (evV (flatP ps) e) fun p => match unflat p.1 with
    | some kvs => if kvs.length ≤ 15 then .ok (.dict (mergeD kvs), true, p.2) else .bad
    | none => .bad) G F L Q := q
  cases h1 : evV (flatP ps) e with
  | bad => rw [h1] at q; exact q
  | ex c d e' => rw [h1] at q; exact fun u dx H' F' x r' => q u dx H' F' x (r'.unG hG hL)
  | ok z =>
    rw [h1] at q
    simp only [bnd_ok] at q
    intro vs H' F' x r' ra _
    cases h2 : unflat z.1 with
    | none => rw [h2] at q; exact False.elim q
    | some kvs =>
      rw [h2] at q
      dsimp only at q
      split at q
      · rename_i hc
        obtain ⟨ks, e1, e2⟩ := ents_unflat h2 ra
        have hp' : H' p = some (.dK []) := r'.gH p _ upd_same
        have hF' : F' p = none := by
          cases y : F' p with
          | none => rfl
          | some o => have w := r'.gf p o y; rw [upd_same] at w; cases w
        refine ⟨hp', ks, e1, by rw [e2.length]; exact hc, ?_⟩
        have en := Ents.merge e2 (.nil (K := K) (F := F') (enc := kD))
        have hs' : ∀ i d t, gt z.2 i = some (d, t) → (t = .own ∨ t = .io) → σ[i]? ≠ some (some (.ref p)) := fun i d t h w y => by
          obtain ⟨a, x1, _, x3, _⟩ := own_at r' h w
          rw [y] at x1; cases x1
          rw [upd_same] at x3; cases x3
        have r3 : Rel K T G F' L σ (upd H' p (.dK (mergeK [] ks))) z.2 := by
          have b := r'.unG hG hL
          refine ⟨b.len, fun a o y => ?_, fun a o y => ?_, b.gf, fun P hP => ?_, b.fz, fun i d y => ?_, fun i d y => ?_, fun i d y => ?_, b.pin, b.apart⟩
          · rw [upd_ne (fun w => by rw [w, hG] at y; cases y)]; exact b.gH a o y
          · rw [upd_ne (fun w => by rw [w, hF'] at y; cases y)]; exact b.fH a o y
          · obtain ⟨⟨t, t1, t2⟩, f, g⟩ := b.tb P hP
            exact ⟨⟨t, by rw [upd_ne (hT P hP)]; exact t1, t2⟩, f, g⟩
          · obtain ⟨a, x1, x2, x3, x4⟩ := b.own i d y
            have ne : a ≠ p := fun w => hs' i d _ y (.inl rfl) (w ▸ x1)
            exact ⟨a, x1, x2.ext (Ext.refl _) fun u w => by rw [upd_ne ne]; exact w, x3, x4⟩
          · obtain ⟨a, x0, x1, x2, x3, x4⟩ := b.io i d y
            have ne : a ≠ p := fun w => hs' i d _ y (.inr rfl) (w ▸ x1)
            exact ⟨a, x0, x1, x2.ext (Ext.refl _) fun u w => by rw [upd_ne ne]; exact w, x3, x4⟩
          · exact b.lk i d y
        exact q _ _ F' x r3 ⟨p, rfl, .dK upd_same en.rp en.keys, hG, hF', hs'⟩
      · exact False.elim q
end
section
variable {X : Cx} {T : List Addr} {W : WX} {pos : Pos}
abbrev SPs (X : Cx) (T : List Addr) (W : WX) (pos : Pos) (ks : List (Option Expr)) (vs : List Expr) (ps : List (EV × EV)) : Prop := PPs X pos ks vs (ps.map fun p => (tE X.K T W p.1, tE X.K T W p.2))
theorem sps_nil : SPs X T W pos [] [] [] := pps_nil
theorem sps_cons {k v : Expr} {ks : List (Option Expr)} {vs : List Expr} {f g : EV} {ps : List (EV × EV)} (hk : SE X T W k f) (hv : SE X T W v g) (hr : SPs X T W pos ks vs ps) : SPs X T W pos (some k :: ks) (v :: vs) ((f, g) :: ps) := pps_cons hk hv hr
theorem se_disp {ks : List (Option Expr)} {vs : List Expr} {ps : List (EV × EV)} (h : SPs X T W pos ks vs ps) (hall : ks.all (·.isSome) = true := by rfl) (hl : ks.length = vs.length := by rfl) (h0 : ks ≠ [] := by simp) (h15 : ks.length ≤ 15 := by decide) : SE X T W (.Dict ks vs pos) (eDisp ps) :=
  PE.mono (pe_disp h hall hl h0 h15) fun _ _ _ => disp_ok
end

/-! ### list(range(..)), tuple(range(..)) -/
def rgD (a b : Int) : List PyData := (List.range (b - a).toNat).map fun i => .int (a + (i : Nat))
def rgOk (a b : Int) : Bool := decide (-(2 ^ 62) ≤ a) && decide (a < 2 ^ 62) && decide (-(2 ^ 62) ≤ b) && decide (b < 2 ^ 62) && decide ((b - a).toNat ≤ 16777216)
theorem rgOk_ok {a b : Int} (h : rgOk a b = true) : RgOk a b := by
  simp only [rgOk, Bool.and_eq_true, decide_eq_true_eq] at h
  exact ⟨h.1.1.1.1, h.1.1.1.2, h.1.1.2, h.1.2, by have := h.2; omega⟩
theorem rg_rp {K : Fr} {F : Hp} (a b : Int) : RpAll K F (rgV a b) (rgD a b) := by
  unfold rgV rgD
  generalize List.range (b - a).toNat = l
  induction l with
  | nil => exact .nil
  | cons x l h => exact .cons (.int _) h
def oLR1 : Op
  | [.int n] => if rgOk 0 n then some (.list (rgD 0 n), true) else none
  | _ => none
def oLR2 : Op
  | [.int i, .int j] => if rgOk i j then some (.list (rgD i j), true) else none
  | _ => none
def oTR1 : Op
  | [.int n] => if rgOk 0 n then some (.tuple (rgD 0 n), false) else none
  | _ => none
section
variable {X : Cx} {T : List Addr} {W : WX} {pos p p2 q2 : Pos} {a b : Expr} {f g : Arg}
theorem d_lr1 {K : Fr} : OpD K (r1 fun x H Q => ∃ n, x = .int n ∧ RgOk 0 n ∧ ∀ q, H q = none → Q (.ref q) (upd H q (.lst (rgV 0 n)))) oLR1 := fun F H vs ds d o Q e n q k => by
  unfold oLR1 at q
  split at q
  · split at q
    · rename_i c
      cases q
      obtain ⟨x, rfl, nx⟩ := now1 n
      cases now_int nx
      exact ⟨_, rfl, _, rfl, rgOk_ok c, fun p hp => k_lst (rg_rp _ _) k e p hp⟩
    · cases q
  · cases q
theorem d_tr1 {K : Fr} : OpD K (r1 fun x H Q => ∃ n, x = .int n ∧ RgOk 0 n ∧ ∀ q, H q = none → Q (.ref q) (upd H q (.tup (rgV 0 n)))) oTR1 := fun F H vs ds d o Q e n q k => by
  unfold oTR1 at q
  split at q
  · split at q
    · rename_i c
      cases q
      obtain ⟨x, rfl, nx⟩ := now1 n
      cases now_int nx
      exact ⟨_, rfl, _, rfl, rgOk_ok c, fun p hp => k_tup (rg_rp _ _) k e p hp⟩
    · cases q
  · cases q
theorem d_lr2 {K : Fr} : OpD K (r2 fun x y H Q => ∃ i j, x = .int i ∧ y = .int j ∧ RgOk i j ∧ ∀ q, H q = none → Q (.ref q) (upd H q (.lst (rgV i j)))) oLR2 := fun F H vs ds d o Q e n q k => by
  unfold oLR2 at q
  split at q
  · split at q
    · rename_i c
      cases q
      obtain ⟨x, y, rfl, nx, ny⟩ := now2 n
      cases now_int nx
      cases now_int ny
      exact ⟨_, _, rfl, _, _, rfl, rfl, rgOk_ok c, fun p hp => k_lst (rg_rp _ _) k e p hp⟩
    · cases q
  · cases q
theorem r1_of {K : Fr} {r : V → Hp → VK → Prop} {a : Arg} {σ : L2.St} {H : Hp} {Q : VK} (h : tAs [tAg K T W a] σ H fun vs H1 => r1 r vs H1 Q) : tAg K T W a σ H fun x H1 => r x H1 Q :=
  tAg_mono a σ H _ _ (fun x H1 h1 => by
    obtain ⟨x', e, q⟩ : r1 r [x] H1 Q := h1
    cases e
    exact q) h
theorem se_lr1 (hc : X.calm = true) (hg : Gl X "list") (hm : X.mg "list" = none) (hg2 : Gl X "range") (hm2 : X.mg "range" = none) (ha : SA X T W a f) (na : starEach [a] X.env = (false, eval a X.env) :: starEach [] X.env := by rfl)
    (na2 : starEach [.Call (.Name "range" p2) [a] [] q2] X.env = (false, eval (.Call (.Name "range" p2) [a] [] q2) X.env) :: starEach [] X.env := by rfl) : SE X T W (.Call (.Name "list" p) [.Call (.Name "range" p2) [a] [] q2] [] pos) (eOp oLR1 [f]) :=
  PE.mono (pe_listRg hc hg hm (prg_1 hg2 hm2 ha na) na2) fun σ H Q q => tAg_mono f σ H _ _ (fun x H1 h => by obtain ⟨n, e, h⟩ := h; exact ⟨n, e, h⟩) (r1_of (op_ok d_lr1 [f] q))
theorem se_tr1 (hc : X.calm = true) (hg : Gl X "tuple") (hm : X.mg "tuple" = none) (hg2 : Gl X "range") (hm2 : X.mg "range" = none) (ha : SA X T W a f) (na : starEach [a] X.env = (false, eval a X.env) :: starEach [] X.env := by rfl)
    (na2 : starEach [.Call (.Name "range" p2) [a] [] q2] X.env = (false, eval (.Call (.Name "range" p2) [a] [] q2) X.env) :: starEach [] X.env := by rfl) : SE X T W (.Call (.Name "tuple" p) [.Call (.Name "range" p2) [a] [] q2] [] pos) (eOp oTR1 [f]) :=
  PE.mono (pe_tupRg hc hg hm (prg_1 hg2 hm2 ha na) na2) fun σ H Q q => tAg_mono f σ H _ _ (fun x H1 h => by obtain ⟨n, e, h⟩ := h; exact ⟨n, e, h⟩) (r1_of (op_ok d_tr1 [f] q))
theorem se_lr2 (hc : X.calm = true) (hg : Gl X "list") (hm : X.mg "list" = none) (hg2 : Gl X "range") (hm2 : X.mg "range" = none) (ha : SA X T W a f) (hb : SA X T W b g) (na : starEach [a, b] X.env = (false, eval a X.env) :: starEach [b] X.env := by rfl)
    (nb : starEach [b] X.env = (false, eval b X.env) :: starEach [] X.env := by rfl) (hp : (backTo q2 (starEach [b] X.env)).any (·.1) = false := by rfl)
    (na2 : starEach [.Call (.Name "range" p2) [a, b] [] q2] X.env = (false, eval (.Call (.Name "range" p2) [a, b] [] q2) X.env) :: starEach [] X.env := by rfl) : SE X T W (.Call (.Name "list" p) [.Call (.Name "range" p2) [a, b] [] q2] [] pos) (eOp oLR2 [f, g]) :=
  PE.mono (pe_listRg hc hg hm (prg_2 hg2 hm2 ha hb na nb hp) na2) fun σ H Q q => by
    have h := r2_of (op_ok d_lr2 [f, g] q) (tAg_mono f) (tAg_mono g)
    exact tAg_mono f σ H _ _ (fun x H1 h => tAg_mono g σ H1 _ _ (fun y H2 h => by obtain ⟨i, j, e1, e2, h⟩ := h; exact ⟨i, j, e1, e2, h⟩) h) h
end

/-! ### isinstance -/
def isaD : String → PyData → Option Bool
  | "int", d => some (PyData.isInt d)
  | "bool", d => some (PyData.isBool d)
  | "str", d => some (PyData.isStr d)
  | "list", d => some (PyData.isList d)
  | "tuple", d => some (PyData.isTuple d)
  | _, _ => none
def oIsa (t : String) : Op
  | [d] => if d.canLay0 then (isaD t d).map fun b => (.bool b, false) else none
  | _ => none
def rIsa (K : Fr) (t : String) : List V → Hp → VK → Prop := fun xs H Q => ∃ x d b, xs = [x, .ty t] ∧ Dp K H x d ∧ isaD t d = some b ∧ Q (.bl b) H
theorem run_isa {X : Cx} (t : String) : CallR X (.builtin "isinstance") (rIsa X.K t) := by
  intro pins s σ H vs us Q I r h
  obtain ⟨x, d, b, rfl, hd, hb, q⟩ := h
  obtain ⟨u1, u2, rfl, ra, rb⟩ := vals2 r
  cases rb
  obtain ⟨as, rd⟩ := Dp.reads I d x u1 hd ra
  have fin : ∀ tk, s.toks ≤ tk → EP X pins σ Q (.bool b) { s with toks := tk } := fun tk _ => ⟨.bl b, H, I.tok _, rfl, q⟩
  unfold isaD at hb
  split at hb
  · cases hb; exact PySem.W.isinstance_int_data rd fin
  · cases hb; exact PySem.W.isinstance_bool_data rd fin
  · cases hb; exact PySem.W.isinstance_str_data rd fin
  · cases hb; exact PySem.W.isinstance_list_data rd fin
  · cases hb; exact PySem.W.isinstance_tuple_data rd fin
  · cases hb
section
variable {X : Cx} {T : List Addr} {W : WX} {pos p p2 : Pos} {e : Expr} {a : Arg} {ty : Str} {t : String}
theorem d_isa {K : Fr} {t : String} : OpD K (r1 fun x H Q => rIsa K t [x, .ty t] H Q) (oIsa t) := fun F H vs ds d o Q e n q k => by
  unfold oIsa at q
  split at q
  · split at q
    · rename_i c
      obtain ⟨b, h1, h2⟩ := Option.map_eq_some_iff.mp q
      cases h2
      obtain ⟨x, rfl, nx⟩ := now1 n
      exact ⟨x, rfl, x, _, b, rfl, (nx.rp e).dp c, h1, k_imm rfl k e⟩
    · cases q
  · cases q
theorem se_isa (hg : Gl X "isinstance") (hm : X.mg "isinstance" = none) (hg2 : Gl X ty) (hm2 : X.mg ty = none) (hb : bootBuiltins ty = some (.type t)) (ha : SA X T W e a) (hn2 : ty ≠ "__name__" := by decide) (hd2 : (ty == ("__debug__" : Str)) = false := by decide)
    (hs1 : starEach [e, .Name ty p2] X.env = (false, eval e X.env) :: starEach [.Name ty p2] X.env := by rfl) (hs2 : starEach [.Name ty p2] X.env = (false, eval (.Name ty p2) X.env) :: starEach [] X.env := by rfl)
    (hpl : (backTo pos (starEach [.Name ty p2] X.env)).any (·.1) = false := by rfl) : SE X T W (.Call (.Name "isinstance" p) [e, .Name ty p2] [] pos) (eOp (oIsa t) [a]) :=
  PE.mono (pe_callB (run_isa t) hg hm PyProof.Rows.boot_isinstance (pa_cons ha (pa_cons (pe_bltn (v := .ty t) hg2 hm2 hb rfl hn2 hd2) pa_nil hs2) hs1) (he := hs1) (hpl := hpl)) fun σ H Q q => r1_of (op_ok d_isa [a] q)
end
end Py
end
section
set_option Elab.async false
set_option linter.all false
set_option maxRecDepth 100000
set_option maxHeartbeats 4000000
/-! sorted(set(t)) of numbers. -/
namespace Py
open PySem PySem.Spec PyProof.Rows L2

/-- the numbers in order, each once -/
def ssort (ns : List Int) : List Int := ns.eraseDups.mergeSort (fun a b => decide (a ≤ b))
theorem strict_unique : ∀ {xs ys : List Int}, xs.Pairwise (· < ·) → ys.Pairwise (· < ·) → (∀ k, k ∈ xs ↔ k ∈ ys) → xs = ys
  | [], [], _, _, _ => rfl
  | [], y :: ys, _, _, h => by have := (h y).mpr List.mem_cons_self; cases this
  | x :: xs, [], _, _, h => by have := (h x).mp List.mem_cons_self; cases this
  | x :: xs, y :: ys, hx, hy, h => by
    obtain ⟨hx1, hx2⟩ := List.pairwise_cons.mp hx
    obtain ⟨hy1, hy2⟩ := List.pairwise_cons.mp hy
    have e : x = y := by
      rcases List.mem_cons.mp ((h x).mp List.mem_cons_self) with e | m
      · exact e
      · rcases List.mem_cons.mp ((h y).mpr List.mem_cons_self) with e | m'
        · exact e.symm
        · have := hy1 x m; have := hx1 y m'; omega
    subst e
    rw [strict_unique hx2 hy2 fun k => ⟨fun m => ?_, fun m => ?_⟩]
    · rcases List.mem_cons.mp ((h k).mp (List.mem_cons_of_mem _ m)) with e | m'
      · have := hx1 k m; omega
      · exact m'
    · rcases List.mem_cons.mp ((h k).mpr (List.mem_cons_of_mem _ m)) with e | m'
      · have := hy1 k m; omega
      · exact m'
theorem mem_ssort (ns : List Int) (k : Int) : k ∈ ssort ns ↔ k ∈ ns := by
  unfold ssort
  rw [List.mem_mergeSort, List.mem_eraseDups]
theorem nodup_eraseDups : ∀ (n : Nat) (l : List Int), l.length ≤ n → l.eraseDups.Nodup
  | _, [], _ => by simp
  | 0, a :: l, h => by simp at h
  | n + 1, a :: l, h => by
    rw [List.eraseDups_cons, List.nodup_cons]
    refine ⟨fun m => ?_, nodup_eraseDups n _ ?_⟩
    · rw [List.mem_eraseDups, List.mem_filter] at m
      simp at m
    · have := List.length_filter_le (fun b => !b == a) l
      simp only [List.length_cons] at h
      omega
theorem ssort_strict (ns : List Int) : (ssort ns).Pairwise (· < ·) := by
  have h1 : (ssort ns).Pairwise (fun a b => decide (a ≤ b) = true) := List.pairwise_mergeSort (fun a b c h1 h2 => by simp at *; omega) (fun a b => by simp; omega) _
  have h2 : (ssort ns).Nodup := (List.mergeSort_perm _ _).nodup_iff.mpr (nodup_eraseDups _ ns (Nat.le_refl _))
  exact lt_of_le_nodup _ (h1.imp fun h => by simpa using h) h2
theorem ssort_eq {ns xs : List Int} (h : xs.Pairwise (· < ·)) (m : ∀ k, k ∈ xs ↔ k ∈ ns) : xs = ssort ns := strict_unique h (ssort_strict ns) fun k => (m k).trans (mem_ssort ns k).symm
/-- set(t), t a tuple of numbers -/
def rSetTI (K : Fr) (w : World) : List V → Hp → VK → Prop := fun xs H Q => ∃ (a : Addr) (ns : List Int), xs = [.ref a] ∧ SqT K H a (ns.map V.int) ∧ ns.length < 63 ∧ ∀ p c, H p = none → c ≤ ns.length → Q (.ref p) (upd H p (SetO w p (fun j => decide (j ∈ ns)) c))
theorem run_setTI {X : Cx} (hc : X.calm = true) : CallR X (.type "set") (rSetTI X.K X.w) := by
  intro pins s σ H vs us Q I r h
  obtain ⟨a, ns, rfl, hs, hz, q⟩ := h
  obtain ⟨its, rv, ht, _⟩ := I.tuple hs
  rw [Vals.ref1 r]
  refine call_set_tupI ns (I.ok.hd hc) ht (by simpa using rv.ints) (by unfold scanBound; omega) fun h' tk c R hc' k => ?_
  have hn : H s.heap.objs.size = none := I.hok.fresh (Nat.le_refl _)
  exact ⟨.ref _, _, I.laid (t' := tk) k (Nat.le_refl _) (setO_new R), rfl, q _ c hn hc'⟩
def oSSet : Op
  | [.tuple ds] => match ints? ds with
    | some ns => if ns.length < 63 then some (.list ((ssort ns).map .int), true) else none
    | none => none
  | _ => none
theorem d_sset {K : Fr} {w : World} : OpD K (r1 fun x H Q => rSetTI K w [x] H fun v H2 => rSortedSet w [v] H2 Q) oSSet := fun F H vs ds d o Q e n q k => by
  unfold oSSet at q
  split at q
  · split at q
    · rename_i ds ns hn
      split at q
      · rename_i c
        cases q
        obtain ⟨x, rfl, nx⟩ := now1 n
        have := ints?_eq hn
        subst this
        obtain ⟨a, xs, rfl, s, r⟩ := now_tup nx
        cases r.ints
        refine ⟨_, rfl, a, ns, rfl, SqT.of (e _ _ s), c, fun p cnt hp hcnt => ⟨p, _, cnt, rfl, upd_same, by omega, fun out p2 h1 h2 h3 hp2 => ?_⟩⟩
        have ho : out = ssort ns := ssort_eq h1 fun j => by rw [h2 j]; simp
        subst ho
        have ne : p2 ≠ p := fun z => by rw [z, upd_same] at hp2; cases hp2
        rw [upd_ne ne] at hp2
        have x1 : Ext H (upd H p (SetO w p (fun j => decide (j ∈ ns)) cnt)) := Ext.upd hp
        have x2 : Ext (upd H p (SetO w p (fun j => decide (j ∈ ns)) cnt)) (upd (upd H p (SetO w p (fun j => decide (j ∈ ns)) cnt)) p2 (.lst ((ssort ns).map V.int))) := Ext.upd (by rw [upd_ne ne]; exact hp2)
        exact k _ _ F (Ext.refl F) (e.trans (x1.trans x2)) (x1.trans x2) (fun a u z => .inl ⟨u, z⟩) ⟨p2, rfl, hp2, e.none hp2, .lst upd_same (.of_ints _)⟩
      · cases q
    · cases q
  · cases q
section
variable {X : Cx} {T : List Addr} {W : WX} {pos p p2 q2 : Pos} {e : Expr} {a : Arg}
theorem se_sset (hc : X.calm = true) (hg : Gl X "sorted") (hm : X.mg "sorted" = none) (hg2 : Gl X "set") (hm2 : X.mg "set" = none) (ha : SA X T W e a) (na : starEach [e] X.env = (false, eval e X.env) :: starEach [] X.env := by rfl)
    (na2 : starEach [.Call (.Name "set" p2) [e] [] q2] X.env = (false, eval (.Call (.Name "set" p2) [e] [] q2) X.env) :: starEach [] X.env := by rfl) : SE X T W (.Call (.Name "sorted" p) [.Call (.Name "set" p2) [e] [] q2] [] pos) (eOp oSSet [a]) :=
  PE.mono (pe_callB (cr_sortedSet hc) hg hm (by decide +kernel : bootBuiltins "sorted" = some (.builtin "sorted")) (pa_cons (pe_callTy (run_setTI hc) hg2 hm2 (by decide +kernel : bootBuiltins "set" = some (.type "set")) (pa_cons ha pa_nil na) (he := na)) pa_nil na2) (he := na2)) fun σ H Q q => r1_of (op_ok d_sset [a] q)
end
end Py
end
section
set_option Elab.async false
set_option linter.all false
set_option maxRecDepth 100000
set_option maxHeartbeats 4000000
/-! a < b < c. -/
namespace Py
open PySem PySem.Spec PyProof.Rows L2
def eCh (h h' : Op) (f g k : EV) : EV := fun e => bnd (evV [f, g] e) fun p => match p.1 with
  | [x, y] => (match h [x, y] with
    | some (.bool true, false) => bnd (k p.2) fun q => (match h' [y, q.1] with
      | some (d, o) => .ok (d, o, q.2.2)
      | none => .bad)
    | some (.bool false, false) => .ok (.bool false, false, p.2)
    | _ => .bad)
  | _ => .bad
section
variable {K : Fr} {T : List Addr} {W : WX}
theorem newV_false {F' H H' : Hp} {v : V} {d : PyData} (n : NewV K F' H H' v d false) : Rp K F' v d := n
theorem eCh_ok {r r' : R2} {h h' : Op} (d1 : OpD K (r2 r) h) (d2 : OpD K (r2 r') h') {f g k : EV} {σ : L2.St} {H : Hp} {Q : VK} (q : tE K T W (eCh h h' f g k) σ H Q) : tChain r r' (tE K T W f) (tE K T W g) (tE K T W k) σ H Q := by
  obtain ⟨G, F, L, e, rel, q⟩ := q
  refine evV_evO [f, g] (Q := fun vs H2 => match vs with
    | [x, y] => r x y H2 fun z H3 => ∃ k', z = .bl k' ∧ (if k' = true then tE K T W k σ H3 fun w' H4 => r' y w' H4 Q else Q (.bl false) H3)
    | _ => False) rel ?_
  have q : tQ K T W σ (bnd (evV [f, g] e) fun p => match p.1 with
    | [x, y] => (match h [x, y] with
      | some (.bool true, false) => bnd (k p.2) fun q => (match h' [y, q.1] with
        | some (d, o) => .ok (d, o, q.2.2)
        | none => .bad)
      | some (.bool false, false) => .ok (.bool false, false, p.2)
      | _ => .bad)
    | _ => .bad) G F L Q := q
  cases h1 : evV [f, g] e with
  | bad => rw [h1] at q; exact q
  | ex c d e' => rw [h1] at q; exact q
  | ok p =>
    rw [h1] at q
    simp only [bnd_ok] at q
    intro vs H' F' x0 r0 ra
    split at q
    · rename_i x y hp
      rw [hp] at ra
      obtain ⟨vx, vy, rfl, rx, ry⟩ := rp2 ra
      show r vx vy H' _
      split at q
      · rename_i hh
        refine r2_elim (d1 F' H' [vx, vy] [x, y] (.bool true) false _ r0.fH ⟨.inl rx, .inl ry, trivial⟩ hh fun v H2 F2 y1 y2 y3 y4 nv => ?_)
        have := newV_false nv
        cases this
        refine ⟨true, rfl, ?_⟩
        rw [if_pos rfl]
        have r2 := r0.grow y1 y2 y3 y4
        refine ⟨G, F2, L, p.2, r2, ?_⟩
        cases h3 : k p.2 with
        | bad => rw [h3] at q; exact q
        | ex c d e' => rw [h3] at q; exact fun u dx H' F' x => q u dx H' F' ((x0.trans y1).trans x)
        | ok z =>
          obtain ⟨dz, oz, ez⟩ := z
          rw [h3] at q
          simp only [bnd_ok] at q
          intro vz H3 F3 x3 r3 vr
          obtain ⟨F4, x4, r4, rz⟩ := r3.still vr
          cases h4 : h' [y, dz] with
          | none => rw [h4] at q; exact False.elim q
          | some w =>
            obtain ⟨dw, ow⟩ := w
            rw [h4] at q
            exact r2_elim (d2 F4 H3 [vy, vz] [y, dz] dw ow Q r4.fH ⟨.inl (ry.ext ((y1.trans x3).trans x4)), .inl rz, trivial⟩ h4 fun v H5 F5 w1 w2 w3 w4 nv => q v H5 F5 ((((x0.trans y1).trans x3).trans x4).trans w1) (r4.grow w1 w2 w3 w4) (newV_vr r4 nv))
      · rename_i hh
        refine r2_elim (d1 F' H' [vx, vy] [x, y] (.bool false) false _ r0.fH ⟨.inl rx, .inl ry, trivial⟩ hh fun v H2 F2 y1 y2 y3 y4 nv => ?_)
        have := newV_false nv
        cases this
        refine ⟨false, rfl, ?_⟩
        rw [if_neg (by simp)]
        exact q _ H2 F2 (x0.trans y1) (r0.grow y1 y2 y3 y4) (.bl false)
      · exact False.elim q
    · exact False.elim q
end
section
variable {X : Cx} {T : List Addr} {W : WX} {pos : Pos} {a b c : Expr} {f g k : EV} {op op' : CmpOp} {r r' : R2} {h h' : Op}
theorem se_ch (ho : OpR X (compareOp op) r) (ho' : OpR X (compareOp op') r') (d1 : OpD X.K (r2 r) h) (d2 : OpD X.K (r2 r') h') (ha : SE X T W a f) (hb : SE X T W b g) (hc : SE X T W c k) (hm : lastMarks [op, op'] [b, c] = false := by with_unfolding_all rfl) :
    SE X T W (.Compare a [op, op'] [b, c] pos) (eCh h h' f g k) := PE.mono (pe_chain ho ho' ha hb hc hm) fun _ _ _ => eCh_ok d1 d2
theorem st_ch (ho : OpR X (compareOp op) r) (ho' : OpR X (compareOp op') r') (d1 : OpD X.K (r2 r) h) (d2 : OpD X.K (r2 r') h') (ha : SE X T W a f) (hb : SE X T W b g) (hc : SE X T W c k) (hm : lastMarks [op, op'] [b, c] = false := by with_unfolding_all rfl) :
    ST X T W (.Compare a [op, op'] [b, c] pos) (tOf (eCh h h' f g k)) := PT.mono (pt_chain ho ho' ha hb hc hm) fun _ _ _ q => eCh_ok d1 d2 (tOf_ok q)
end
end Py
end
section
set_option Elab.async false
set_option linter.all false
set_option maxRecDepth 100000
set_option maxHeartbeats 4000000
/-! The rules as the printed texts use them. -/
namespace Py
open PySem PySem.Spec PyProof.Rows L2

/-- what a def's context gives -/
structure Go (X : Cx) (W : WX) (k : Nat) : Prop where
  hr : Room k X.A
  cm : X.calm = true
  nd : X.N.Nodup
  tk : Takes X W
theorem Go.u {X : Cx} {W : WX} {k : Nat} (g : Go X W k) : X.A.units + 64 < cLine := by have := g.hr.un; omega
theorem Go.blk {X : Cx} {W : WX} {k : Nat} (g : Go X W k) (scope : Scope) (s : Shared) (H : Hp) (C : Addr) (cl : List (Str × Addr)) (fp : List Addr) : Go (BCx X scope s H C cl fp) WF k :=
  ⟨g.hr, g.cm, g.nd, fun _ _ ⟨_, _, _, _, _, _, _, _, _, _, _, _, _, _, _, _, w⟩ => w.elim⟩
theorem go_def {P : Program} {w : World} {K : Fr} {mg : Str → Option Value} {base : Heap} {N ps : List Str} {qual : Str} {scope : Scope} {f : Addr} {cdv : Value} {A : Around} {outer : List Env} {s : Shared} {H : Hp} {E : XK} {k : Nat} (S : FnScope N ps scope)
    (hr : Room k (A.deeper (envOfC qual scope s.heap.objs.size f cdv))) : Go (DCx P w K mg base N qual scope f cdv A outer s H E) (WD E) k :=
  ⟨hr, rfl, S.nd, takes_of rfl rfl rfl rfl⟩
theorem po_def {P : Program} {w : World} {K : Fr} {mg : Str → Option Value} {base : Heap} {N : List Str} {qual : Str} {scope : Scope} {f : Addr} {cdv : Value} {A : Around} {outer : List Env} {s : Shared} {H : Hp} {E : XK} :
    PassesOwn (model (DCx P w K mg base N qual scope f cdv A outer s H E).prog (DCx P w K mg base N qual scope f cdv A outer s H E).w) (DCx P w K mg base N qual scope f cdv A outer s H E).A (DCx P w K mg base N qual scope f cdv A outer s H E).env (DCx P w K mg base N qual scope f cdv A outer s H E).xe := passes_of rfl
/-- what stands of a def, for its callers -/
def CalP (P : Program) (w : World) (K : Fr) (mg : Str → Option Value) (base : Heap) (k : Nat) (x : Str) (n : Nat) (sp : Sp) : Prop :=
  ∃ (f : Addr) (fd : FuncData) (ps : List Str), FnOk P w K mg base (L2.CX P w) k f fd ps sp ∧ mg x = some (.ref f) ∧ PySem.W.keepIn K (.ref f) = true ∧ Binds K fd ps [] ∧ ps.length = n
def oIx : Op := oOr oIxL (oOr oIxT (oOr oIxS oIxD))
def oIn : Op := oOr oInL oInD
def oNotIn : Op := oOr oNotInL oNotInD
def oLen : Op := oOr oLenQ (oOr oLenS oLenD)
def oSort : Op := oOr oSorted oSortT
def oLt : Op := oLtI
def oLe : Op := oLeI
def oGt : Op := oGtI
def oGe : Op := oGeI
def uSet : St3 := s3Or uList uDict
section
variable {X : Cx} {T : List Addr} {W : WX} {pos p p2 q2 : Pos} {k : Nat} {ea eb e : Expr} {a b : Arg}
theorem call_len_any : CallR X (.builtin "len") (fun xs H Q => (∃ p ys, xs = [.ref p] ∧ (SqL X.K H p ys ∨ SqT X.K H p ys) ∧ Q (.int ys.length) H) ∨ (∃ z, xs = [.str z] ∧ z.length ≤ sizeLine ∧ Q (.int z.length) H) ∨ (∃ a kvs, xs = [V.ref a] ∧ H a = some (.dK kvs) ∧ Q (.int kvs.length) H) ∨ ∃ a kvs, xs = [V.ref a] ∧ H a = some (.dT kvs) ∧ Q (.int kvs.length) H) :=
  CallR.or call_len_seq (CallR.or call_len_str (CallR.or call_lenD (fun pins s σ H vs us Q I r h => by obtain ⟨p, kvs, h1, h2, h3⟩ := h; exact call_len_dT pins s σ H vs us Q I r ⟨p, kvs, h1, h2, h3⟩)))
theorem d_len {K : Fr} : OpD K (fun xs H Q => (∃ p ys, xs = [.ref p] ∧ (SqL K H p ys ∨ SqT K H p ys) ∧ Q (.int ys.length) H) ∨ (∃ z, xs = [.str z] ∧ z.length ≤ sizeLine ∧ Q (.int z.length) H) ∨ (∃ a kvs, xs = [V.ref a] ∧ H a = some (.dK kvs) ∧ Q (.int kvs.length) H) ∨ ∃ a kvs, xs = [V.ref a] ∧ H a = some (.dT kvs) ∧ Q (.int kvs.length) H) oLen := opD_or d_lenQ (opD_or d_lenS d_lenD)
/-! binary -/
theorem se_add (ha : SA X T W ea a) (hb : SA X T W eb b) : SE X T W (.BinOp ea .Add eb pos) (eOp oAdd [a, b]) :=
  se_bin (op_add.or (op_add_str.or (op_catL.or op_catA))) (opD_or2 (opD_I0 fun _ _ => rfl) (opD_or2 d_addS (opD_or2 d_catL d_catT))) ha hb
theorem se_sub (ha : SA X T W ea a) (hb : SA X T W eb b) : SE X T W (.BinOp ea .Sub eb pos) (eOp oSub [a, b]) := se_bin op_sub (opD_I0 fun _ _ => rfl) ha hb
theorem d_mulI {K : Fr} : OpD K (r2 fun x y H Q => rI CMul (fun i j => .int (i * j)) x y H Q ∨ rI CMulW (fun i j => .int (i * j)) x y H Q) oMulI := opD_or2 (opD_I (fun i j h => by
  simp only [cMul, Bool.or_eq_true, Bool.and_eq_true, decide_eq_true_eq] at h; exact h) fun _ _ => rfl) (opD_I (fun i j h => by simpa [cMulW, CMulW] using h) fun _ _ => rfl)
theorem se_mul (ha : SA X T W ea a) (hb : SA X T W eb b) : SE X T W (.BinOp ea .Mult eb pos) (eOp oMul [a, b]) :=
  se_bin ((op_mul.or op_mulW).or (op_repL.or op_repT)) (opD_or2 d_mulI (opD_or2 d_repL d_repT)) ha hb
theorem se_div (ha : SA X T W ea a) (hb : SA X T W eb b) : SE X T W (.BinOp ea .FloorDiv eb pos) (eOp oDiv [a, b]) := se_bin (op_fdivN.or op_fdivW) d_div ha hb
theorem se_mod (ha : SA X T W ea a) (hb : SA X T W eb b) : SE X T W (.BinOp ea .Mod eb pos) (eOp oMod [a, b]) := se_bin op_modN (opD_I (fun i j h => by simpa [cNz] using h) fun _ _ => rfl) ha hb
theorem se_pow (ha : SA X T W ea a) (hb : SA X T W eb b) : SE X T W (.BinOp ea .Pow eb pos) (eOp oPow [a, b]) := se_bin op_pow (opD_I (fun i j h => by
  simp only [cPow, Bool.and_eq_true, decide_eq_true_eq] at h; exact ⟨h.1.1, h.1.2, h.2⟩) fun _ _ => rfl) ha hb
def oNeg : Op
  | [.int i] => some (.int (-i), false)
  | _ => none
theorem se_neg (ha : SA X T W ea a) : SE X T W (.UnaryOp .USub ea pos) (eOp oNeg [a]) := se_un un_neg (fun F H vs ds d o Q e n q k => by
  unfold oNeg at q
  split at q
  · cases q
    obtain ⟨x, rfl, nx⟩ := now1 n
    cases now_int nx
    exact ⟨_, rfl, _, rfl, k_imm rfl k e⟩
  · cases q) ha
/-! comparisons -/
section
variable (g : Go X W k)
include g
theorem rc_eq : OpR X (compareOp .Eq) (rEqD X.K) := op_eqD g.u
theorem rc_ne : OpR X (compareOp .NotEq) (rNeD X.K) := op_neD g.u
theorem rc_in : OpR X (compareOp .In) (fun x y H Q => rInD X.K x y H Q ∨ rDI x y H Q) := (op_inD (by have := g.hr.un; omega)).or (op_inD' g.u)
theorem rc_notin : OpR X (compareOp .NotIn) (fun x y H Q => rNotInD X.K x y H Q ∨ rDNI x y H Q) := (op_notInD (by have := g.hr.un; omega)).or (op_notInD' g.u)
omit g
theorem rc_lt : OpR X (compareOp .Lt) (rI0 fun i j => .bl (decide (i < j))) := op_lt
theorem rc_le : OpR X (compareOp .LtE) (rI0 fun i j => .bl (decide (i ≤ j))) := op_le
theorem rc_gt : OpR X (compareOp .Gt) (rI0 fun i j => .bl (decide (j < i))) := op_gt
theorem rc_ge : OpR X (compareOp .GtE) (rI0 fun i j => .bl (decide (j ≤ i))) := op_ge
theorem rc_is : OpR X (compareOp .Is) (fun x y H Q => (y = .non ∧ Q (.bl (decide (x = .non))) H) ∨ rIsB x y H Q) := op_isN.or op_isBl
theorem rc_isnot : OpR X (compareOp .IsNot) (fun x y H Q => (y = .non ∧ Q (.bl (!decide (x = .non))) H) ∨ rNotB x y H Q) := op_notN.or op_notBl
end
theorem d_in {K : Fr} : OpD K (r2 fun x y H Q => rInD K x y H Q ∨ rDI x y H Q) oIn := opD_or2 d_inL d_inD
theorem d_notin {K : Fr} : OpD K (r2 fun x y H Q => rNotInD K x y H Q ∨ rDNI x y H Q) oNotIn := opD_or2 d_notInL d_notInD
theorem d_lt {K : Fr} : OpD K (r2 (rI0 fun i j => .bl (decide (i < j)))) oLt := opD_I0 fun _ _ => rfl
theorem d_le {K : Fr} : OpD K (r2 (rI0 fun i j => .bl (decide (i ≤ j)))) oLe := opD_I0 fun _ _ => rfl
theorem d_gt {K : Fr} : OpD K (r2 (rI0 fun i j => .bl (decide (j < i)))) oGt := opD_I0 fun _ _ => rfl
theorem d_ge {K : Fr} : OpD K (r2 (rI0 fun i j => .bl (decide (j ≤ i)))) oGe := opD_I0 fun _ _ => rfl
theorem d_is {K : Fr} : OpD K (r2 fun x y H Q => (y = .non ∧ Q (.bl (decide (x = .non))) H) ∨ rIsB x y H Q) oIs := opD_or2 d_isN d_isB
theorem d_isnot {K : Fr} : OpD K (r2 fun x y H Q => (y = .non ∧ Q (.bl (!decide (x = .non))) H) ∨ rNotB x y H Q) oIsNot := opD_or2 d_notN d_notB
/-! indices -/
theorem se_item (g : Go X W k) (ha : SA X T W ea a) (hb : SA X T W eb b) (hs : PlainIx eb := by intro _ _; rfl) : SE X T W (.Subscript ea eb pos) (eOp oIx [a, b]) :=
  se_ix (IxR.or ix_list (IxR.or ix_tup (IxR.or ix_str (ix_D g.u)))) (opD_or2 d_ixL (opD_or2 d_ixT (opD_or2 d_ixS d_ixD))) ha hb hs
/-! built-in functions of one thing, of two -/
theorem se_len (hg : Gl X "len") (hm : X.mg "len" = none) (ha : SA X T W e a) (he : starEach [e] X.env = (false, eval e X.env) :: starEach [] X.env := by rfl) : SE X T W (.Call (.Name "len" p) [e] [] pos) (eOp oLen [a]) :=
  se_bi call_len_any d_len hg hm (by decide +kernel : bootBuiltins "len" = some (.builtin "len")) (sas_cons ha sas_nil he) (he := he)
theorem se_sum (g : Go X W k) (hg : Gl X "sum") (hm : X.mg "sum" = none) (ha : SA X T W e a) (he : starEach [e] X.env = (false, eval e X.env) :: starEach [] X.env := by rfl) : SE X T W (.Call (.Name "sum" p) [e] [] pos) (eOp oSum [a]) :=
  se_bi (run_sum g.cm) d_sum hg hm (by decide +kernel : bootBuiltins "sum" = some (.builtin "sum")) (sas_cons ha sas_nil he) (he := he)
theorem se_max (g : Go X W k) (hg : Gl X "max") (hm : X.mg "max" = none) (ha : SA X T W e a) (he : starEach [e] X.env = (false, eval e X.env) :: starEach [] X.env := by rfl) : SE X T W (.Call (.Name "max" p) [e] [] pos) (eOp oMax [a]) :=
  se_bi (run_max g.cm g.u) d_max hg hm (by decide +kernel : bootBuiltins "max" = some (.builtin "max")) (sas_cons ha sas_nil he) (he := he)
theorem se_min (g : Go X W k) (hg : Gl X "min") (hm : X.mg "min" = none) (ha : SA X T W e a) (he : starEach [e] X.env = (false, eval e X.env) :: starEach [] X.env := by rfl) : SE X T W (.Call (.Name "min" p) [e] [] pos) (eOp oMin [a]) :=
  se_bi (run_min g.cm g.u) d_min hg hm (by decide +kernel : bootBuiltins "min" = some (.builtin "min")) (sas_cons ha sas_nil he) (he := he)
theorem se_max2 (g : Go X W k) (hg : Gl X "max") (hm : X.mg "max" = none) (ha : SA X T W ea a) (hb : SA X T W eb b) (he : starEach [ea, eb] X.env = (false, eval ea X.env) :: starEach [eb] X.env := by rfl) (he2 : starEach [eb] X.env = (false, eval eb X.env) :: starEach [] X.env := by rfl) (hpl : (backTo pos (starEach [eb] X.env)).any (·.1) = false := by rfl) : SE X T W (.Call (.Name "max" p) [ea, eb] [] pos) (eOp oMax2 [a, b]) :=
  se_bi (call_max2 g.cm) d_max2 hg hm (by decide +kernel : bootBuiltins "max" = some (.builtin "max")) (sas_cons ha (sas_cons hb sas_nil he2) he) (he := he) (hpl := hpl)
theorem se_min2 (g : Go X W k) (hg : Gl X "min") (hm : X.mg "min" = none) (ha : SA X T W ea a) (hb : SA X T W eb b) (he : starEach [ea, eb] X.env = (false, eval ea X.env) :: starEach [eb] X.env := by rfl) (he2 : starEach [eb] X.env = (false, eval eb X.env) :: starEach [] X.env := by rfl) (hpl : (backTo pos (starEach [eb] X.env)).any (·.1) = false := by rfl) : SE X T W (.Call (.Name "min" p) [ea, eb] [] pos) (eOp oMin2 [a, b]) :=
  se_bi (call_min2 g.cm) d_min2 hg hm (by decide +kernel : bootBuiltins "min" = some (.builtin "min")) (sas_cons ha (sas_cons hb sas_nil he2) he) (he := he) (hpl := hpl)
theorem se_abs (hg : Gl X "abs") (hm : X.mg "abs" = none) (ha : SA X T W e a) (he : starEach [e] X.env = (false, eval e X.env) :: starEach [] X.env := by rfl) : SE X T W (.Call (.Name "abs" p) [e] [] pos) (eOp oAbs [a]) :=
  se_bi call_abs d_abs hg hm (by decide +kernel : bootBuiltins "abs" = some (.builtin "abs")) (sas_cons ha sas_nil he) (he := he)
theorem se_toint (hg : Gl X "int") (hm : X.mg "int" = none) (ha : SA X T W e a) (he : starEach [e] X.env = (false, eval e X.env) :: starEach [] X.env := by rfl) : SE X T W (.Call (.Name "int" p) [e] [] pos) (eOp oInt1 [a]) :=
  se_ty call_int1 d_int1 hg hm (by decide +kernel : bootBuiltins "int" = some (.type "int")) (sas_cons ha sas_nil he) (he := he)
theorem se_tolist (hg : Gl X "list") (hm : X.mg "list" = none) (ha : SA X T W e a) (he : starEach [e] X.env = (false, eval e X.env) :: starEach [] X.env := by rfl) : SE X T W (.Call (.Name "list" p) [e] [] pos) (eOp oList [a]) :=
  se_ty call_list_of d_list hg hm (by decide +kernel : bootBuiltins "list" = some (.type "list")) (sas_cons ha sas_nil he) (he := he)
theorem se_totup (hg : Gl X "tuple") (hm : X.mg "tuple" = none) (ha : SA X T W e a) (he : starEach [e] X.env = (false, eval e X.env) :: starEach [] X.env := by rfl) : SE X T W (.Call (.Name "tuple" p) [e] [] pos) (eOp oTuple [a]) :=
  se_ty call_tuple_of d_tuple hg hm (by decide +kernel : bootBuiltins "tuple" = some (.type "tuple")) (sas_cons ha sas_nil he) (he := he)
theorem se_sorted (g : Go X W k) (hg : Gl X "sorted") (hm : X.mg "sorted" = none) (ha : SA X T W e a) (he : starEach [e] X.env = (false, eval e X.env) :: starEach [] X.env := by rfl) : SE X T W (.Call (.Name "sorted" p) [e] [] pos) (eOp oSort [a]) :=
  se_bi (CallR.or (run_sorted g.u) (run_sortT g.u)) (opD_or d_sorted d_sortT) hg hm (by decide +kernel : bootBuiltins "sorted" = some (.builtin "sorted")) (sas_cons ha sas_nil he) (he := he)
/-! x[k] = v -/
theorem ps_set (g : Go X W k) : PSet X (fun o i v H Q => rSetL o i v H Q ∨ rSetD o i v H Q) := pset_or set_list (set_dict (by have := g.hr.un; omega))
theorem u_set {K : Fr} : SetD K (fun o i v H Q => rSetL o i v H Q ∨ rSetD o i v H Q) uSet := setD_or u_list u_dict
end
/-! comprehensions, the block's context handed on -/
section
variable {X : Cx} {T : List Addr} {W : WX} {pos : Pos} {k : Nat}
theorem se_lcG (g : Go X W k) {elt tg iter : Expr} {ifs : List Expr} {scope : Scope} {own : List (Str × Nat)} {it : IV} {gv : GV} {t : TV} {f : EV} (hi : SI X T W tg iter it) (ok : blkC X.N X.env.scope scope own = true)
    (hg : ∀ (s : Shared) (H : Hp) (C : Addr) (cl : List (Str × Addr)) (fp : List Addr), Go (BCx X scope s H C cl fp) WF k → SGw (BCx X scope s H C cl fp) T (own.map (·.2)) tg gv)
    (ht : ∀ (s : Shared) (H : Hp) (C : Addr) (cl : List (Str × Addr)) (fp : List Addr), Go (BCx X scope s H C cl fp) WF k → PTs (BCx X scope s H C cl fp) ifs (tT X.K T WF t))
    (he : ∀ (s : Shared) (H : Hp) (C : Addr) (cl : List (Str × Addr)) (fp : List Addr), Go (BCx X scope s H C cl fp) WF k → SE (BCx X scope s H C cl fp) T WF elt f) (hs : ∀ x, foldedSetIterable iter X.env x = pure x := by intro _; rfl) :
    SE X T W (.ListComp elt [⟨tg, iter, ifs, 0⟩] scope pos) (eLc it (own.map (·.2)) gv t f) :=
  se_lc g.cm g.nd hi ok (fun s H C cl fp => hg s H C cl fp (g.blk scope s H C cl fp)) (fun s H C cl fp => ht s H C cl fp (g.blk scope s H C cl fp)) (fun s H C cl fp => he s H C cl fp (g.blk scope s H C cl fp)) hs
theorem ss_lcG (g : Go X W k) {i : Nat} {y : Str} {py spos : Pos} {elt tg iter : Expr} {ifs : List Expr} {scope : Scope} {own : List (Str × Nat)} {it : IV} {gv : GV} {t : TV} {f : EV} (hy : X.N[i]? = some y) (hyl : X.env.scope.names.lookup y = some .local)
    (hsw : swapsWith (.ListComp elt [⟨tg, iter, ifs, 0⟩] scope pos) (some (.Name y py)) spos.line X.env = pure true) (hi : SI X T W tg iter it) (ok : blkC X.N X.env.scope scope own = true)
    (hg : ∀ (s : Shared) (H : Hp) (C : Addr) (cl : List (Str × Addr)) (fp : List Addr), Go (BCx X scope s H C cl fp) WF k → SGw (BCx X scope s H C cl fp) T (own.map (·.2)) tg gv)
    (ht : ∀ (s : Shared) (H : Hp) (C : Addr) (cl : List (Str × Addr)) (fp : List Addr), Go (BCx X scope s H C cl fp) WF k → PTs (BCx X scope s H C cl fp) ifs (tT X.K T WF t))
    (he : ∀ (s : Shared) (H : Hp) (C : Addr) (cl : List (Str × Addr)) (fp : List Addr), Go (BCx X scope s H C cl fp) WF k → SE (BCx X scope s H C cl fp) T WF elt f) (hs : ∀ x, foldedSetIterable iter X.env x = pure x := by intro _; rfl) :
    SS X T W (.Assign [.Name y py] (.ListComp elt [⟨tg, iter, ifs, 0⟩] scope pos) spos) (sAsg (gN i) (eLc it (own.map (·.2)) gv t f)) :=
  ss_lc g.cm g.nd hy hyl hsw hi ok (fun s H C cl fp => hg s H C cl fp (g.blk scope s H C cl fp)) (fun s H C cl fp => ht s H C cl fp (g.blk scope s H C cl fp)) (fun s H C cl fp => he s H C cl fp (g.blk scope s H C cl fp)) hs
end
end Py
end
section
set_option Elab.async false
set_option linter.all false
set_option maxRecDepth 100000
set_option maxHeartbeats 4000000
/-! Methods as the printed texts use them; raise. -/
namespace Py
open PySem PySem.Spec PyProof.Rows L2
section
variable {X : Cx} {T : List Addr} {W : WX} {pos apos cpos py : Pos} {k : Nat} {e e2 : Expr} {f f2 : EV} {i : Nat} {y : Str}
theorem se_append (hN : X.N[i]? = some y) (hv : Vis X.env.scope y) (h : SE X T W e f) (hdb : (y == ("__debug__" : Str)) = false := by decide) (hcd : (y == ("__classdict__" : Str)) = false := by decide)
    (hbase : attributeBase (.Name y py) "append" X.env (eval (.Name y py) X.env) = eval (.Name y py) X.env := by rfl)
    (hfew : ((backTo cpos (starEach [e] X.env)).all (fun x => !x.1) && (backToKw cpos (keywordEach [] X.env)).all (fun x => x.1.isSome)
      && decide ([e].length + ([] : List Keyword).length + (if ([] : List Keyword).isEmpty then 0 else 1) < 30)) = true := by rfl)
    (hline : (apos.endLine == cpos.line) = true := by rfl) (hs : starEach [e] X.env = (false, eval e X.env) :: starEach [] X.env := by rfl) :
    SE X T W (.Call (.Attribute (.Name y py) "append" apos) [e] [] cpos) (eMt "list" i mAppend [f]) :=
  se_mt mt_append d_append PySem.F.plainAttrs_list PySem.F.slot_list_append PySem.F.type_list_append hN hv (svs_cons h svs_nil hs) hdb hcd hbase hfew hline hs
theorem se_popi (hN : X.N[i]? = some y) (hv : Vis X.env.scope y) (h : SE X T W e f) (hdb : (y == ("__debug__" : Str)) = false := by decide) (hcd : (y == ("__classdict__" : Str)) = false := by decide)
    (hbase : attributeBase (.Name y py) "pop" X.env (eval (.Name y py) X.env) = eval (.Name y py) X.env := by rfl)
    (hfew : ((backTo cpos (starEach [e] X.env)).all (fun x => !x.1) && (backToKw cpos (keywordEach [] X.env)).all (fun x => x.1.isSome)
      && decide ([e].length + ([] : List Keyword).length + (if ([] : List Keyword).isEmpty then 0 else 1) < 30)) = true := by rfl)
    (hline : (apos.endLine == cpos.line) = true := by rfl) (hs : starEach [e] X.env = (false, eval e X.env) :: starEach [] X.env := by rfl) :
    SE X T W (.Call (.Attribute (.Name y py) "pop" apos) [e] [] cpos) (eMt "list" i mPopAt [f]) :=
  se_mt mt_popAt d_popAt PySem.F.plainAttrs_list PySem.F.slot_list_pop PySem.F.type_list_pop hN hv (svs_cons h svs_nil hs) hdb hcd hbase hfew hline hs
theorem se_pop0 (hN : X.N[i]? = some y) (hv : Vis X.env.scope y) (hdb : (y == ("__debug__" : Str)) = false := by decide) (hcd : (y == ("__classdict__" : Str)) = false := by decide)
    (hbase : attributeBase (.Name y py) "pop" X.env (eval (.Name y py) X.env) = eval (.Name y py) X.env := by rfl) (hline : (apos.endLine == cpos.line) = true := by rfl) :
    SE X T W (.Call (.Attribute (.Name y py) "pop" apos) [] [] cpos) (eMt "list" i mPop []) :=
  se_mt0 mt_pop d_pop PySem.F.plainAttrs_list PySem.F.slot_list_pop PySem.F.type_list_pop hN hv hdb hcd hbase hline
theorem se_get2 (g : Go X W k) (hN : X.N[i]? = some y) (hv : Vis X.env.scope y) (h : SE X T W e f) (h2 : SE X T W e2 f2) (hdb : (y == ("__debug__" : Str)) = false := by decide) (hcd : (y == ("__classdict__" : Str)) = false := by decide)
    (hbase : attributeBase (.Name y py) "get" X.env (eval (.Name y py) X.env) = eval (.Name y py) X.env := by rfl)
    (hfew : ((backTo cpos (starEach [e, e2] X.env)).all (fun x => !x.1) && (backToKw cpos (keywordEach [] X.env)).all (fun x => x.1.isSome)
      && decide ([e, e2].length + ([] : List Keyword).length + (if ([] : List Keyword).isEmpty then 0 else 1) < 30)) = true := by rfl)
    (hline : (apos.endLine == cpos.line) = true := by rfl) (hs : starEach [e, e2] X.env = (false, eval e X.env) :: starEach [e2] X.env := by rfl) (hs2 : starEach [e2] X.env = (false, eval e2 X.env) :: starEach [] X.env := by rfl) (hplain : (backTo cpos (starEach [e2] X.env)).any (·.1) = false := by rfl) :
    SE X T W (.Call (.Attribute (.Name y py) "get" apos) [e, e2] [] cpos) (eMs "dict" oGet2 i [f, f2]) :=
  se_ms (mt_get2 g.u) d_get2' PySem.F.plainAttrs_dict PySem.F.slot_dict_get PySem.F.type_dict_get hN hv (svs_cons h (svs_cons h2 svs_nil hs2) hs) hdb hcd hbase hfew hline hs hplain
end
/-! raise -/
/-- a class with an own __init__; a plain one -/
structure ExcI (K : Fr) (prog : Program) (w : World) (mg : Str → Option Value) (c : String) (ok : PyData → Bool) : Prop where
  ex : ∃ (fI : Addr) (sn pn : Str) (ea : Expr), Sup K prog mg (Str.ofString c) (He.ga K (Str.ofString c)) fI (fldN c) sn pn ea ∧ ∀ d, ok d = true → ∀ F v u, Rp K F v d → RelV v u → MsgOk prog w ea pn u
structure ExcP (K : Fr) (mg : Str → Option Value) (c : String) : Prop where
  x1 : PySem.W.excIn K (He.ga K (Str.ofString c)) He.veBase "ValueError.__new__" = true
  x2 : mg (Str.ofString c) = some (.ref (He.ga K (Str.ofString c)))
  x3 : PySem.W.keepIn K (.ref (He.ga K (Str.ofString c))) = true
  x4 : PySem.W.subIn K (.ref (He.ga K (Str.ofString c))) (.type "BaseException") = some true
  x5 : PySem.W.typeIn K (.ref (He.ga K (Str.ofString c))) = some (.type "type")
section
variable {X : Cx} {T : List Addr} {W : WX} {pos p pos2 : Pos} {k : Nat} {e : Expr} {f : EV} {c : String} {ok : PyData → Bool}
theorem ss_raiseI (g : Go X W (k + 1)) (x : ExcI X.K X.prog X.w X.mg c ok) (hg : Gl X (Str.ofString c)) (he : SE X T W e f) (hdb : (Str.ofString c == ("__debug__" : Str)) = false := by decide) (hs : starEach [e] X.env = (false, eval e X.env) :: starEach [] X.env := by rfl) (hpl : (backTo pos (starEach [] X.env)).any (·.1) = false := by rfl) :
    SS X T W (.Raise (some (.Call (.Name (Str.ofString c) p) [e] [] pos)) none pos2) (sRaise c ok f) := by
  obtain ⟨fI, sn, pn, ea, S, m⟩ := x.ex
  exact ss_raiseS S rfl g.cm g.hr g.tk hg he m hdb hs hpl
theorem ss_raiseP {m : Str} {j : Nat} {p2 : Pos} (g : Go X W k) (x : ExcP X.K X.mg c) (hg : Gl X (Str.ofString c)) (hdb : (Str.ofString c == ("__debug__" : Str)) = false := by decide) :
    SS X T W (.Raise (some (.Call (.Name (Str.ofString c) p) [.Constant (.str m) j p2] [] pos)) none pos2) (sRaise0 c) := ss_raise0 x.x1 x.x2 x.x3 x.x4 x.x5 g.cm g.tk hg hdb
end
end Py
end
section
set_option Elab.async false
set_option linter.all false
set_option maxRecDepth 100000
set_option maxHeartbeats 4000000
/-! try .. except c as n: return .. -/
namespace Py
open PySem PySem.Spec PyProof.Rows L2

/-- the body; an exception of the class c' gives the value h d at once -/
def sTry (b : SV) (known : List String) (c' : String) (i : Nat) (h : PyData → Option (PyData × Bool)) : SV := fun e => match b e with
  | .ok f => .ok f
  | .ex c d e' => if known.contains c then (if c == c' then (if (gt e' i).isNone && decide (i < e'.length) then (match h d with | some (v, o) => .ok (.rt v o e') | none => .bad) else .bad) else .ex c d e') else .bad
  | .bad => .bad
section
variable {K : Fr} {T : List Addr} {W : WX} {G F : Hp} {L : List (Nat × Addr)} {σ : L2.St} {H : Hp} {e : Nv}
/-- a slot that the environment does not know -/
theorem Rel.hid (r : Rel K T G F L σ H e) {i : Nat} (h : gt e i = none) (v : Option V) : Rel K T G F L (σ.set i v) H e := by
  have ne : ∀ {j d t}, gt e j = some (d, t) → i ≠ j := fun {j d t} q z => by rw [z] at h; rw [h] at q; cases q
  have at_ : ∀ {j d t}, gt e j = some (d, t) → (σ.set i v)[j]? = σ[j]? := fun {j d t} q => List.getElem?_set_ne (ne q)
  refine ⟨by simp [r.len], r.gH, r.fH, r.gf, r.tb, fun j d q => ?_, fun j d q => ?_, fun j d q => ?_, fun j d q => ?_, fun j a m => ?_, fun j k d1 d2 t1 t2 a h1 h2 q1 q2 s1 s2 => ?_⟩
  · rw [at_ q]; exact r.fz j d q
  · rw [at_ q]; exact r.own j d q
  · rw [at_ q]; exact r.io j d q
  · rw [at_ q]; exact r.lk j d q
  · obtain ⟨p1, d, p2⟩ := r.pin j a m
    rcases p2 with p2 | p2 <;> (rw [at_ p2]; exact ⟨p1, d, by first | exact .inl p2 | exact .inr p2⟩)
  · rw [at_ h1] at s1; rw [at_ h2] at s2; exact r.apart j k d1 d2 t1 t2 a h1 h2 q1 q2 s1 s2
end
/-- the reading of a suite that gives h d at once -/
def tSu (K : Fr) (T : List Addr) (i : Nat) (c : String) (h : PyData → Option (PyData × Bool)) (a : Addr) (cls : Value) (dx : Option Addr) : TS := fun D σ H => ∃ G F L e d w o, Rel K T G F L σ H e ∧ σ[i]? = some (some (.ref a)) ∧ gt e i = none ∧ ExV K F c d cls dx H ∧ h d = some (w, o) ∧
  ∀ v H' F', Ext F F' → Rel K T G F' L σ H' e → Vr K T G F' σ H' e v w o → D.rt v H'
/-- what the clause's suite keeps -/
def SuOk (X : Cx) (T : List Addr) (i : Nat) (c : String) (suite : List Stmt) (h : PyData → Option (PyData × Bool)) : Prop :=
  ∀ (a : Addr) (oe : Obj) (dx : Option Addr) (pn : List (Addr × Obj)), Zc (.ref (He.ga X.K (Str.ofString c))) dx oe → (∃ vs, oe.data = .fields vs) → PSs (X.suite a ((a, oe) :: pn)) suite (tSu X.K T i c h a (.ref (He.ga X.K (Str.ofString c))) dx)
theorem Go.tr {X : Cx} {W W' : WX} {k : Nat} (g : Go X W k) {pn : List (Addr × Obj)} {xe : Value → Shared → Prop} (tk : Takes (X.tr pn xe) W') : Go (X.tr pn xe) W' k := ⟨g.hr, g.cm, g.nd, tk⟩
theorem PSs.of_false {X : Cx} {l : List Stmt} {t : TS} {p : Prop} (h : p → PSs X l t) : PSs X l (fun D σ H => p ∧ t D σ H) := ⟨fun pins s σ H D I q => (h q.1).run pins s σ H D I q.2⟩
section
variable {X : Cx} {T : List Addr} {W : WX} {k : Nat} {i : Nat} {n : Str} {c : String} {known : List String} {body suite : List Stmt} {b₀ : Stmt} {np pos pos' : Pos} {b : List SV} {h : PyData → Option (PyData × Bool)}
theorem ss_try (g : Go X W k) (hs : X.stack = X.env :: X.outer) (hf : X.env.frame = some X.env.locals) (hi : X.N[i]? = some n) (hln : X.env.kindOf n = some .local) (hc : Names X (Str.ofString c) (.ref (He.ga X.K (Str.ofString c))))
    (ex : ∀ c2 ∈ known, PySem.W.exmOne X.K (.ref (He.ga X.K (Str.ofString c2))) (.ref (He.ga X.K (Str.ofString c))) = some (c2 == c))
    (hb : ∀ (W' : WX) (pn : List (Addr × Obj)) (xe : Value → Shared → Prop), Go (X.tr pn xe) W' k → PassesOwn (model X.prog X.w) X.A X.env xe → SSs (X.tr pn xe) T W' body b)
    (hsu : SuOk X T i c (b₀ :: suite) h) : SS X T W (.Try body [.ExceptHandler (some (.Name (Str.ofString c) np)) (some n) (b₀ :: suite) pos'] [] [] pos) (sTry (sSeq b) known c i h) := by
  have hsu' : ∀ (a : Addr) (oe : Obj) (cls : Value) (d : Option Addr) (pn : List (Addr × Obj)), Zc cls d oe → (∃ vs, oe.data = .fields vs) → PSs (X.suite a ((a, oe) :: pn)) (b₀ :: suite) (fun D σ H => cls = .ref (He.ga X.K (Str.ofString c)) ∧ tSu X.K T i c h a (.ref (He.ga X.K (Str.ofString c))) d D σ H) := fun a oe cls d pn hz hv => PSs.of_false fun e => by
    subst e
    exact hsu a oe d pn hz hv
  refine PS.mono (ps_try_as hs hf g.nd hi hln hc g.tk (tb := fun W' => tS X.K T W' (sSeq b)) (fun W' pn xe tk po => hb W' pn xe (g.tr tk) po) (ts := fun a cls d D σ H => cls = .ref (He.ga X.K (Str.ofString c)) ∧ tSu X.K T i c h a (.ref (He.ga X.K (Str.ofString c))) d D σ H) hsu') fun D σ H q => ?_
  obtain ⟨G, F, L, e, r, q0⟩ := q
  refine ⟨G, F, L, e, r, ?_⟩
  have q : fQ X.K T W (match sSeq b e with
    | .ok f => .ok f
    | .ex c2 d e' => if known.contains c2 then (if c2 == c then (if (gt e' i).isNone && decide (i < e'.length) then (match h d with | some (v, o) => .ok (.rt v o e') | none => .bad) else .bad) else .ex c2 d e') else .bad
    | .bad => .bad) G F L D := q0
  clear q0
  cases hq : sSeq b e with
  | bad => rw [hq] at q; exact q
  | ok f => rw [hq] at q; cases f <;> exact q
  | ex c2 d e' =>
    rw [hq] at q
    dsimp only at q
    split at q
    · rename_i hk
      intro u dx σ' H' F' x r' v
      have eu : u = .ref (He.ga X.K (Str.ofString c2)) := v.1
      refine ⟨c2 == c, by rw [eu]; exact ex c2 (by simpa using hk), fun hb => ?_, fun hb => ?_⟩
      · rw [if_pos hb] at q
        split at q
        · rename_i hn
          intro a ha
          have ec : c2 = c := by simpa using hb
          subst ec
          rw [Bool.and_eq_true, decide_eq_true_eq] at hn
          have hn' : gt e' i = none := by simpa using hn.1
          have hlt : i < σ'.length := by rw [← r'.len]; exact hn.2
          cases hh : h d with
          | none => rw [hh] at q; exact False.elim q
          | some z =>
            obtain ⟨vv, oo⟩ := z
            rw [hh] at q
            exact ⟨eu, G, F', L, e', d, vv, oo, r'.hid hn' _, List.getElem?_set_self hlt, hn', eu ▸ v, hh, fun w H2 F2 x2 r2 vr => q _ w H2 F2 (x.trans x2) r2 vr⟩
        · exact False.elim q
      · rw [hb] at q
        exact q u dx σ' H' F' x r' v
    · exact False.elim q
end
/-! ### the suites -/
/-- what the class D of a caught exception must say, that isinstance may be asked of it -/
structure EcK (K : Fr) (D : Addr) : Prop where
  ga : PySem.W.findIn K (.ref D) "__getattribute__" = some (some (.builtin "BaseException.__getattribute__"))
  gt : PySem.W.findIn K (.ref D) "__getattr__" = some none
  be : PySem.W.subIn K (.ref D) (.type "BaseException") = some true
  di : PySem.W.hasDictIn K D = true
  cl : PySem.W.findIn K (.ref D) "__class__" = some (some (.builtin "object.__class__"))
  ge : PySem.W.specialIn K (.builtin "object.__class__") "__get__" = some (some (.builtin "getset_descriptor.__get__"))
  tk : PySem.W.takesIn K (.builtin "object.__class__") = some true
  ob : PySem.W.mroIn K D (.type "object") = some true
/-- what must stand of the class D of a caught exception, of the class asked -/
structure CatK (K : Fr) (mg : Str → Option Value) (c : String) (y : Str) : Prop where
  C : EcK K (He.ga K (Str.ofString c))
  m : mg y = some (.ref (He.ga K y))
  k : PySem.W.kitOne K (.ref (He.ga K (Str.ofString c))) (.ref (He.ga K y)) = some true
theorem run_isX {X : Cx} {a D : Addr} {oe : Obj} {dx : Option Addr} {pn : List (Addr × Obj)} (C : EcK X.K D) (hz : Zc (.ref D) dx oe) (hf : ∃ vs, oe.data = .fields vs) :
    CallR (X.suite a ((a, oe) :: pn)) (.builtin "isinstance") (fun xs H Q => ∃ (c : Addr) (b : Bool), xs = [.ref a, .ref c] ∧ PySem.W.kitOne X.K (.ref D) (.ref c) = some b ∧ (dx = none ∨ ∃ dd fs, dx = some dd ∧ H dd = some (.xd fs)) ∧ Q (.bl b) H) := by
  intro pins s σ H xs us Q I r h
  obtain ⟨c, b, rfl, e, hd, q⟩ := h
  obtain ⟨u1, u2, rfl, ra, rb⟩ := vals2 r
  cases ra
  cases rb
  obtain ⟨hget, _⟩ := I.pin (a, oe) (List.mem_append.mpr (.inl List.mem_cons_self))
  obtain ⟨vs, hv⟩ := hf
  have J : ∃ od, PySem.W.InstAt s.heap a oe D od := by
    obtain ⟨oc, od, oda, osl⟩ := oe
    obtain ⟨h1, h2⟩ := hz
    dsimp only at h1 h2 hv
    subst h1 h2 hv
    rcases hd with rfl | ⟨dd, fs, rfl, hx⟩
    · exact ⟨none, hget, rfl, rfl, trivial⟩
    · have hx : ObjOk X.prog X.w H s.heap dd (.xd fs) := I.hok dd _ hx
      obtain ⟨mA, hns, _⟩ := hx
      obtain ⟨od, ho, _⟩ := lookIn_ns hns
      exact ⟨some od, hget, rfl, rfl, ho⟩
  obtain ⟨od, J⟩ := J
  obtain ⟨cd, hcd, _⟩ := PySem.W.any_some C.di
  exact PySem.W.kia_one (PySem.W.kitx_exc (od := od) (by rw [hcd]; rfl) C.ga C.gt C.be C.cl C.ge C.tk C.ob) I.kIn J e (fun z => nomatch z) fun tk => ⟨.bl b, H, I.kept (t' := tk) fun _ _ z => z, rfl, q⟩
section
variable {X : Cx} {T : List Addr} {W : WX} {k : Nat} {i : Nat} {n y : Str} {c : String} {p1 p2 p3 p4 p5 p6 p7 p8 p9 : Pos}
theorem exv_dx {K : Fr} {F H : Hp} {d : PyData} {u : Value} {dx : Option Addr} (v : ExV K F c d u dx H) : dx = none ∨ ∃ dd fs, dx = some dd ∧ H dd = some (.xd fs) := by
  rcases v.2 with ⟨_, h⟩ | ⟨p, v, h1, h2, _⟩
  · exact .inl h
  · exact .inr ⟨p, _, h1, h2⟩
/-- isinstance(e, y) -/
theorem pe_isX {a : Addr} {oe : Obj} {dx : Option Addr} {pn : List (Addr × Obj)} (C : CatK X.K X.mg c y) (hz : Zc (.ref (He.ga X.K (Str.ofString c))) dx oe) (hv : ∃ vs, oe.data = .fields vs) (hg : Gl X "isinstance") (hm : X.mg "isinstance" = none) (hy : Gl X y) (hi : X.N[i]? = some n) (hln : Vis X.env.scope n)
    (hd : (n == ("__debug__" : Str)) = false) (hcd : (n == ("__classdict__" : Str)) = false) (hdy : (y == ("__debug__" : Str)) = false)
    (hs1 : starEach [.Name n p2, .Name y p3] X.env = (false, eval (.Name n p2) X.env) :: starEach [.Name y p3] X.env) (hs2 : starEach [.Name y p3] X.env = (false, eval (.Name y p3) X.env) :: starEach [] X.env) (hpl : (backTo p4 (starEach [.Name y p3] X.env)).any (·.1) = false) :
    PE (X.suite a ((a, oe) :: pn)) (.Call (.Name "isinstance" p1) [.Name n p2, .Name y p3] [] p4) (fun σ H Q => σ[i]? = some (some (.ref a)) ∧ (dx = none ∨ ∃ dd fs, dx = some dd ∧ H dd = some (.xd fs)) ∧ Q (.bl true) H) :=
  PE.mono (pe_callB (X := X.suite a ((a, oe) :: pn)) (run_isX C.C hz hv) hg hm PyProof.Rows.boot_isinstance (pa_cons (pe_var (X := X.suite a ((a, oe) :: pn)) hi hln hd hcd) (pa_cons (pe_glob (X := X.suite a ((a, oe) :: pn)) (v := .ref _) hy C.m rfl hdy) pa_nil hs2) hs1) (he := hs1) (hpl := hpl)) fun σ H Q q => by
    obtain ⟨q1, q2, q3⟩ := q
    exact ⟨_, q1, _, true, rfl, C.k, q2, q3⟩
/-- return isinstance(e, y) -/
theorem su_isa (C : CatK X.K X.mg c y) (hg : Gl X "isinstance") (hm : X.mg "isinstance" = none) (hy : Gl X y) (hi : X.N[i]? = some n) (hln : Vis X.env.scope n) (hd : (n == ("__debug__" : Str)) = false := by decide) (hcd : (n == ("__classdict__" : Str)) = false := by decide) (hdy : (y == ("__debug__" : Str)) = false := by decide)
    (hs1 : starEach [.Name n p2, .Name y p3] X.env = (false, eval (.Name n p2) X.env) :: starEach [.Name y p3] X.env := by rfl) (hs2 : starEach [.Name y p3] X.env = (false, eval (.Name y p3) X.env) :: starEach [] X.env := by rfl) (hpl : (backTo p4 (starEach [.Name y p3] X.env)).any (·.1) = false := by rfl) :
    SuOk X T i c [.Return (some (.Call (.Name "isinstance" p1) [.Name n p2, .Name y p3] [] p4)) p5] (fun _ => some (.bool true, false)) := fun a oe dx pn hz hv =>
  PSs.mono (pss_cons (ps_ret (pe_isX (i := i) C hz hv hg hm hy hi hln hd hcd hdy hs1 hs2 hpl)) pss_nil) fun D σ H q => by
    obtain ⟨G, F, L, e, d, w, o, r, q1, q2, q3, q4, q5⟩ := q
    cases q4
    exact ⟨q1, exv_dx q3, q5 _ H F (Ext.refl F) r (.bl true)⟩
/-- return 'x' if isinstance(e, y) else 'z' -/
theorem su_if {x z : Str} {j1 j2 : Nat} (C : CatK X.K X.mg c y) (hg : Gl X "isinstance") (hm : X.mg "isinstance" = none) (hy : Gl X y) (hi : X.N[i]? = some n) (hln : Vis X.env.scope n) (hd : (n == ("__debug__" : Str)) = false := by decide) (hcd : (n == ("__classdict__" : Str)) = false := by decide) (hdy : (y == ("__debug__" : Str)) = false := by decide)
    (hs1 : starEach [.Name n p2, .Name y p3] X.env = (false, eval (.Name n p2) X.env) :: starEach [.Name y p3] X.env := by rfl) (hs2 : starEach [.Name y p3] X.env = (false, eval (.Name y p3) X.env) :: starEach [] X.env := by rfl) (hpl : (backTo p4 (starEach [.Name y p3] X.env)).any (·.1) = false := by rfl)
    (he : ∀ whole, isTrue (.Call (.Name "isinstance" p1) [.Name n p2, .Name y p3] [] p4) X.env whole = (do let v ← whole; standAt p4; holding [v] (truthy v)) := by intro _; rfl) :
    SuOk X T i c [.Return (some (.IfExp (.Call (.Name "isinstance" p1) [.Name n p2, .Name y p3] [] p4) (.Constant (.str x) j1 p6) (.Constant (.str z) j2 p7) p8)) p5] (fun _ => some (.str x, false)) := fun a oe dx pn hz hv =>
  PSs.mono (pss_cons (ps_ret (pe_ifExp (X := X.suite a ((a, oe) :: pn)) (pt_truth (X := X.suite a ((a, oe) :: pn)) (pe_isX (i := i) C hz hv hg hm hy hi hln hd hcd hdy hs1 hs2 hpl) he) pe_str pe_str)) pss_nil) fun D σ H q => by
    obtain ⟨G, F, L, e, d, w, o, r, q1, q2, q3, q4, q5⟩ := q
    cases q4
    refine ⟨q1, exv_dx q3, true, truV_of (.bl true) rfl, ?_⟩
    exact q5 _ H F (Ext.refl F) r (.str x)
/-- return ['dropped', e.f, isinstance(e, y)] -/
theorem su_fld {x : Str} {j1 : Nat} (C : CatK X.K X.mg c y) (Fd : XfC X.K (He.ga X.K (Str.ofString c))) (hno : PySem.W.findIn X.K (.ref (He.ga X.K (Str.ofString c))) (fldN c) = some none) (hg : Gl X "isinstance") (hm : X.mg "isinstance" = none) (hy : Gl X y) (hi : X.N[i]? = some n) (hln : Vis X.env.scope n) (hd : (n == ("__debug__" : Str)) = false := by decide) (hcd : (n == ("__classdict__" : Str)) = false := by decide) (hdy : (y == ("__debug__" : Str)) = false := by decide)
    (hs1 : starEach [.Name n p2, .Name y p3] X.env = (false, eval (.Name n p2) X.env) :: starEach [.Name y p3] X.env := by rfl) (hs2 : starEach [.Name y p3] X.env = (false, eval (.Name y p3) X.env) :: starEach [] X.env := by rfl) (hpl : (backTo p4 (starEach [.Name y p3] X.env)).any (·.1) = false := by rfl)
    (hb : attributeBase (.Name n p9) (fldN c) X.env (eval (.Name n p9) X.env) = eval (.Name n p9) X.env := by rfl)
    (e1 : starEach [.Constant (.str x) j1 p6, .Attribute (.Name n p9) (fldN c) p7, .Call (.Name "isinstance" p1) [.Name n p2, .Name y p3] [] p4] X.env = (false, eval (.Constant (.str x) j1 p6) X.env) :: starEach [.Attribute (.Name n p9) (fldN c) p7, .Call (.Name "isinstance" p1) [.Name n p2, .Name y p3] [] p4] X.env := by rfl)
    (e2 : starEach [.Attribute (.Name n p9) (fldN c) p7, .Call (.Name "isinstance" p1) [.Name n p2, .Name y p3] [] p4] X.env = (false, eval (.Attribute (.Name n p9) (fldN c) p7) X.env) :: starEach [.Call (.Name "isinstance" p1) [.Name n p2, .Name y p3] [] p4] X.env := by rfl)
    (e3 : starEach [.Call (.Name "isinstance" p1) [.Name n p2, .Name y p3] [] p4] X.env = (false, eval (.Call (.Name "isinstance" p1) [.Name n p2, .Name y p3] [] p4) X.env) :: starEach [] X.env := by rfl) :
    SuOk X T i c [.Return (some (.List [.Constant (.str x) j1 p6, .Attribute (.Name n p9) (fldN c) p7, .Call (.Name "isinstance" p1) [.Name n p2, .Name y p3] [] p4] p8)) p5] (fun d => if isNone d then none else some (.list [.str x, d, .bool true], true)) := fun a oe dx pn hz hv =>
  PSs.mono (pss_cons (ps_ret (pe_lst (X := X.suite a ((a, oe) :: pn)) (pa_cons pe_str (pa_cons (pe_xf Fd hno hz hv (pe_var (X := X.suite a ((a, oe) :: pn)) hi hln hd hcd) hb) (pa_cons (pe_isX (i := i) C hz hv hg hm hy hi hln hd hcd hdy hs1 hs2 hpl) pa_nil e3) e2) e1))) pss_nil) fun D σ H q => by
    obtain ⟨G, F, L, e, d, w, o, r, q1, q2, q3, q4, q5⟩ := q
    dsimp only at q4
    split at q4
    · cases q4
    · rename_i hn
      cases q4
      have dx' := exv_dx q3
      rcases q3.2 with ⟨h, _⟩ | ⟨pd, v, h1, h2, h3⟩
      · subst h; exact absurd rfl hn
      · refine ⟨_, q1, rfl, rfl, pd, _, v, h1, h2, by simp, q1, dx', by rw [sizeLine_eq]; simp, fun pp hp => ?_⟩
        have ob : RpAll X.K F [.str x, v, .bl true] [.str x, d, .bool true] := .cons (.str x) (.cons h3 (.cons (.bl true) .nil))
        exact q5 _ _ F (Ext.refl F) (r.grow (Ext.refl F) (r.fH.trans (Ext.upd hp)) (Ext.upd hp) fun a u z => .inl ⟨u, z⟩) (newV_vr r ⟨pp, rfl, hp, r.fH.none hp, .lst upd_same ob⟩)
end
/-- all that a try asks of the module -/
structure TryK (K : Fr) (mg : Str → Option Value) (c : String) (known : List String) (y : Str) : Prop where
  nm : mg (Str.ofString c) = some (.ref (He.ga K (Str.ofString c)))
  ex : ∀ c2 ∈ known, PySem.W.exmOne K (.ref (He.ga K (Str.ofString c2))) (.ref (He.ga K (Str.ofString c))) = some (c2 == c)
  cat : CatK K mg c y
  fd : XfC K (He.ga K (Str.ofString c))
  no : PySem.W.findIn K (.ref (He.ga K (Str.ofString c))) (fldN c) = some none
end Py
end
section
set_option Elab.async false
set_option linter.all false
set_option maxRecDepth 100000
set_option maxHeartbeats 4000000
/-! sorted(d.items()). -/
namespace Py
open PySem PySem.Spec PyProof.Rows L2
open PySem.W (alike alikeAll dataLt dataLe AllAlike Sortable maxD minD copyHeap copyHeap_at)

def prD (kvs : Kvs) : List PyData := kvs.map fun p => .tuple [p.1, p.2]
def eSIt (i : Nat) : EV := fun e => match gt e i with
  | some (d, _) => (match dK? d with
    | some kvs => if sortOkB (prD kvs) then .ok (.list (sortD (prD kvs)), true, e) else .bad
    | none => .bad)
  | none => .bad
/-- the pairs' tuples tracked -/
theorem ents_pairs {K : Fr} : ∀ (as : List Addr) {ks : List (Key × V)} {kvs : Kvs} (F : Hp), as.length = ks.length → as.Nodup → (∀ a ∈ as, F a = none) → Ents K F kD ks kvs → Ext F (LiI.putT F as ks) ∧ RpAll K (LiI.putT F as ks) (as.map V.ref) (prD kvs)
  | [], [], kvs, F, _, _, _, e => by cases e; exact ⟨Ext.refl F, .nil⟩
  | [], _ :: _, _, _, h, _, _, _ => by cases h
  | _ :: _, [], _, _, h, _, _, _ => by cases h
  | a :: as, (k, v) :: ks, kvs, F, h, hn, hf, e => by
    obtain ⟨n1, n2⟩ := List.nodup_cons.mp hn
    cases e with
    | cons ra re =>
      rename_i d kvs'
      have hF : F a = none := hf a List.mem_cons_self
      have x1 : Ext F (upd F a (.tup [kV k, v])) := Ext.upd hF
      have re' : Ents K (upd F a (.tup [kV k, v])) kD ks kvs' := by
        have := Ents.of (K := K) (F := upd F a (.tup [kV k, v])) (enc := kD) (re.rp.ext x1) re.keys
        exact this
      obtain ⟨x2, r2⟩ := ents_pairs as (upd F a (.tup [kV k, v])) (Nat.succ.inj h) n2 (fun b hb => by
        rw [upd_ne (fun z => n1 (by rw [← z]; exact hb))]; exact hf b (List.mem_cons_of_mem _ hb)) re'
      have x3 : Ext F (LiI.putT F (a :: as) ((k, v) :: ks)) := x1.trans x2
      refine ⟨x3, .cons (.tup (x2 _ _ upd_same) (.cons ?_ (.cons (ra.ext x3) .nil))) r2⟩
      cases k
      · exact .int _
      · exact .str _
def tSIt (K : Fr) (te : TE) : TE := fun σ H Q => te σ H fun x H1 => ∃ F a ks kvs, x = .ref a ∧ H1 a = some (.dK ks) ∧ Ents K F kD ks kvs ∧ Ext F H1 ∧ sortOkB (prD kvs) = true ∧
  ∀ H2 F2 p ys, Ext H1 H2 → Ext F F2 → Ext F2 H2 → H1 p = none → F2 p = none → (∀ a u, F2 a = some u → (∃ u, F a = some u) ∨ H1 a = none) → H2 p = some (.lst ys) → RpAll K F2 ys (sortD (prD kvs)) → Q (.ref p) H2
section
variable {X : Cx} {e : Expr} {te : TE} {p apos cpos pos : Pos}
theorem pe_sortItems (hc : X.calm = true) (hu : X.A.units + 64 < cLine) (he : PE X e te) (hg : Gl X "sorted") (hm : X.mg "sorted" = none) (hbase : attributeBase e "items" X.env (eval e X.env) = eval e X.env := by rfl) (hline : (apos.endLine == cpos.line) = true := by rfl)
    (hs : starEach [.Call (.Attribute e "items" apos) [] [] cpos] X.env = (false, eval (.Call (.Attribute e "items" apos) [] [] cpos) X.env) :: starEach [] X.env := by rfl) :
    PE X (.Call (.Name "sorted" p) [.Call (.Attribute e "items" apos) [] [] cpos] [] pos) (tSIt X.K te) := by
  refine ⟨fun pins s σ H Q I hq => ?_⟩
  refine wpAny_Call_Name_kw (ld_blt I hg hm (by decide +kernel : bootBuiltins "sorted" = some (.builtin "sorted")) ?_)
  refine PyProof.Rows.callWith_builtin1 ?_ hs rfl
  rw [hs]
  show wpAny _ _ (spliced ((false, eval (.Call (.Attribute e "items" apos) [] [] cpos) X.env) :: backTo pos (starEach [] X.env))) _ _ s
  refine Calls.spliced_cons ?_
  refine wpAny_Call_method (T := "dict") (id := "dict.items") hbase rfl hline F.plainAttrs_dict F.slot_dict_items F.type_dict_items (thn (he.run pins s σ H _ I hq) fun u s1 ⟨x, H1, I1, rx, Fz, a, ks, kvs, ex, hd, en, hF, hok, q⟩ => ?_)
  subst ex
  obtain rfl : u = Value.ref a := rx
  obtain ⟨hz, hs0, vs, kv, hdo⟩ := I1.hok a _ hd
  obtain ⟨ep, hat⟩ := hdo.dictAt
  have lk : ks.length = vs.length := Paired.length kv
  have I2 : Inv X pins σ H1 { s1 with heap := s1.heap.push { cls := .type "dict_items", data := .fields #[.ref a] } } := I1.kept (t' := s1.toks) fun b ob q => Heap.get?_push_of_some _ q
  refine ⟨hdo.typeIs, hdo.mapOf.noDict, ?_⟩
  show wpAny _ _ (callWith cpos (.builtin "dict.items") [.ref a] [] []) _ X.xe s1
  refine method_meetsIn F.slot_dict_items F.entry_dict_items rfl (PySem.evalArgs_none ⟨rfl, hdo.typeIs, F.args_dict_items_1 _, _, meets_dict_items (mixKind X.prog X.w) a hs0, ⟨vs, hdo⟩, ?_⟩)
  refine Calls.spliced_nil ?_
  refine PyProof.Rows.call_function_entry_kw kind_sorted plain_sorted entry_sorted (args_sorted1 _) ?_
  unfold Builtin.«sorted»
  refine wpAny_bind (m := checkCount "sorted" 1 1 _) (wpAny_pure ?_)
  refine wpAny_bind (PySem.W.kdx_collect (A := X.A.in1) (knd := mixKind X.prog X.w) (kvs := vs) (ep := ep) (I1.ok.hd hc) ⟨_, Heap.get?_push_size _ rfl, rfl, rfl⟩ (hat.push _) (by omega) fun h' tk as hk hl hG => ?_)
  have nd : as.Nodup := List.Pairwise.imp (fun {a b} (h : a < b) => Nat.ne_of_lt h) hG.rise
  have new : ∀ t ∈ as, H1 t = none := fun t ht => I2.hok.fresh (Nat.le_of_lt (hG.above t ht))
  have newF : ∀ t ∈ as, Fz t = none := fun t ht => hF.none (new t ht)
  have off : ∀ b, b ∉ as → LiI.putT H1 as ks b = H1 b := fun b h1 => LiI.putT_off as ks _ h1
  have atP := LiI.putT_at as ks H1 (by omega) nd
  obtain ⟨xF, rF⟩ := ents_pairs as Fz (by omega) nd newF en
  have kp : Ext H1 (LiI.putT H1 as ks) := fun b u e => by
    rw [off b (fun z => by rw [new b z] at e; cases e)]; exact e
  have J : Inv X pins σ (LiI.putT H1 as ks) { s1 with heap := h', toks := tk } := by
    refine I2.call' (ch := []) rfl ⟨fun b o q _ _ _ => hk b o q, fun b o q _ _ _ => ⟨o.slots, hk b o q⟩, fun b o q n _ => ?_, fun b o q _ => ⟨o, hk b o q⟩, fun b xs q => kp b _ q, fun b o u q => kp b _ q, fun b ps q => ⟨#[], by rw [kp b _ q]; simp⟩⟩ (fun b u q => ?_) I2.bare fun b z => by simp at z
    · rw [off b (fun z => absurd (Heap.lt_size q) (Nat.not_lt.mpr (Nat.le_of_lt (hG.above b z))))]; exact n
    · by_cases hb : b ∈ as
      · obtain ⟨j, pk, e1, e2, e3⟩ := LiI.paired_ix atP hb
        rw [e3] at q
        cases q
        obtain ⟨key, k, x, f1, f2, f3⟩ := hG.pairs j b e1
        obtain ⟨qv, g1, g2, g3⟩ := LiI.paired_get kv e2
        rw [f1] at g1
        cases g1
        have rk : RelV (kV pk.1) key := by rw [g2]; exact relV_key (show keyIs k key = true from f2)
        exact ⟨by show 2 ≤ sizeLine; decide, [key, x], .cons rk (.cons g3 .nil), ⟨_, f3, rfl, _, rfl⟩⟩
      · rw [off b hb] at q
        exact (I2.hok b u q).stay (fun d v _ y => hk d v y) (fun d y => kp d _ y) fun d xs y => kp d _ y
  have hlen : (as.map Value.ref).length ≤ sizeLine := by rw [List.length_map, hl]; omega
  have xH : Ext (LiI.putT Fz as ks) (LiI.putT H1 as ks) := fun b o e => by
    by_cases hb : b ∈ as
    · have atF := LiI.putT_at as ks Fz (by omega) nd
      obtain ⟨j, pk, e1, e2, e3⟩ := LiI.paired_ix atF hb
      obtain ⟨qv, g1, g2⟩ := LiI.paired_get atP e1
      rw [e2] at g1
      cases g1
      rw [e3] at e
      cases e
      exact g2
    · rw [LiI.putT_off as ks _ hb] at e
      rw [off b hb]; exact hF b o e
  have ok := sortOk_of hok
  have lp : (prD kvs).length = as.length := by rw [← rF.length, List.length_map]
  refine wpAny_bind (wpAny_newList ?_ hlen)
  have hoL : (h'.push (seqObj "list" (as.map Value.ref).toArray 0)).get? h'.objs.size = some (seqObj "list" (as.map Value.ref).toArray 0) := Heap.get?_push_size _ rfl
  refine wpAny_bind (wpAny_holding (wpAny_call_entry_kw slot_list_sort ⟨_, hoL, rfl⟩ entry_list_sort ?body (args_list_sort _)))
  case body =>
    have e0 : PySem.W.EachIs (fun u d => ∃ x, RelV x u ∧ Rp X.K (LiI.putT Fz as ks) x d) (as.map Value.ref) (prD kvs) := each_of (vals_refs as) rF fun x u d a b _ => ⟨x, a, b⟩
    have up : ∀ b o, h'.get? b = some o → (PySem.W.sortingHeap (h'.push (seqObj "list" (as.map Value.ref).toArray 0)) h'.objs.size (as.map Value.ref)).get? b = some o := fun b o e => PySem.W.sortingHeap_old (Nat.ne_of_lt (Heap.lt_size e)) (Heap.get?_push_of_some _ e)
    have er : PySem.W.EachIs (fun v b => ∃ as', Reads (PySem.W.sortingHeap (h'.push (seqObj "list" (as.map Value.ref).toArray 0)) h'.objs.size (as.map Value.ref)) v b as') (as.map Value.ref) (prD kvs) := each_of (vals_refs as) rF fun x u d a b m => by
      obtain ⟨as', r⟩ := Dp.reads J d x u ((b.ext xH).dp (lay_mem ok.2.2.1 m)) a
      exact ⟨as', PyProof.Rows.Reads.keeps up r⟩
    show wpAny (model X.prog X.w) X.A.in1.in1 (Builtin.«list.sort» ⟨[.ref h'.objs.size], []⟩) _ _ _
    refine wpAny_mono (PySem.W.list_sort_vals (s := { s1 with heap := h'.push (seqObj "list" (as.map Value.ref).toArray 0), toks := tk }) hoL (PySem.W.SortsAt.data (A := X.A.in1.in1) (s := { s1 with heap := PySem.W.sortingHeap (h'.push (seqObj "list" (as.map Value.ref).toArray 0)) h'.objs.size (as.map Value.ref), toks := tk }) er ok.1 ok.2.1 (fun d m => by have := ok.2.2.2 d m; show X.A.units + 2 + d.depth < _; omega)) hlen (P := fun f s' => f = .done (.ret .none) ∧ EP X pins σ Q (.ref h'.objs.size) s') ⟨rfl, ?_⟩) (fun f s' hf => ?_) fun _ _ e => e
    · have sv := PySem.W.sortVals_data (enc := id) (bs := prD kvs) false e0 er (by rw [List.map_id]; exact ok.1)
      rw [List.map_id] at sv
      obtain ⟨ys, v1, v2⟩ := of_each sv
      obtain ⟨ep', hs'⟩ := sortedHeap_at (vs := as.map Value.ref) (out := (PySem.W.sortVals (PySem.W.dataKind (PySem.W.sortingHeap (h'.push (seqObj "list" (as.map Value.ref).toArray 0)) h'.objs.size (as.map Value.ref)) (prD kvs)) false (as.map Value.ref) (as.map Value.ref)).toArray) hoL
      have hol : (PySem.W.sortVals (PySem.W.dataKind (PySem.W.sortingHeap (h'.push (seqObj "list" (as.map Value.ref).toArray 0)) h'.objs.size (as.map Value.ref)) (prD kvs)) false (as.map Value.ref) (as.map Value.ref)).length = (as.map Value.ref).length := PySem.W.sortVals_length false rfl
      have hn : LiI.putT H1 as ks h'.objs.size = none := J.hok.fresh (Nat.le_refl _)
      have J2 : Inv X pins σ (upd (LiI.putT H1 as ks) h'.objs.size (.lst ys)) { s1 with heap := sortedHeap (h'.push (seqObj "list" (as.map Value.ref).toArray 0)) h'.objs.size (as.map Value.ref) (PySem.W.sortVals (PySem.W.dataKind (PySem.W.sortingHeap (h'.push (seqObj "list" (as.map Value.ref).toArray 0)) h'.objs.size (as.map Value.ref)) (prD kvs)) false (as.map Value.ref) (as.map Value.ref)).toArray, toks := tk } := by
        refine J.laid (t' := tk) (fun b o e => ?_) (Nat.le_refl _) ⟨by rw [v1.length, hol]; exact hlen, _, ep', v1, hs'⟩
        have hlt := Heap.lt_size e
        rw [sortedHeap_old (Nat.ne_of_lt hlt) (by rw [size_push']; exact Nat.lt_succ_of_lt hlt)]
        exact Heap.get?_push_of_some _ e
      have ext2 : Ext (LiI.putT H1 as ks) (upd (LiI.putT H1 as ks) h'.objs.size (.lst ys)) := Ext.upd hn
      have hn1 : H1 h'.objs.size = none := kp.none hn
      have hnF : LiI.putT Fz as ks h'.objs.size = none := xH.none hn
      refine ⟨.ref h'.objs.size, _, J2, rfl, q _ (LiI.putT Fz as ks) _ ys (kp.trans ext2) xF (xH.trans ext2) hn1 hnF (fun b u e => ?_) upd_same v2⟩
      by_cases hb : b ∈ as
      · exact .inr (new b hb)
      · rw [LiI.putT_off as ks _ hb] at e; exact .inl ⟨u, e⟩
    · obtain ⟨rfl, hq⟩ := hf
      exact ⟨_, rfl, wpAny_pure ⟨_, rfl, hq⟩⟩
end
theorem eSIt_ok {K : Fr} {T : List Addr} {W : WX} {i : Nat} {σ : L2.St} {H : Hp} {Q : VK} (q : tE K T W (eSIt i) σ H Q) : tSIt K (tVar i) σ H Q := by
  obtain ⟨G, F, L, e, r, q⟩ := q
  unfold eSIt at q
  cases h : gt e i with
  | none => rw [h] at q; exact False.elim q
  | some p =>
    obtain ⟨d, t⟩ := p
    rw [h] at q
    dsimp only at q
    cases hk : dK? d with
    | none => rw [hk] at q; exact False.elim q
    | some kvs =>
      rw [hk] at q
      dsimp only at q
      split at q
      · rename_i hs
        obtain ⟨v, hv, n⟩ := r.now h
        obtain ⟨a, ks, rfl, x1, x2⟩ := now_dK r.fH n hk
        refine ⟨_, hv, F, a, ks, kvs, rfl, x1, x2, r.fH, hs, fun H2 F2 p ys y1 y2 y3 y4 y5 y6 y7 y8 => ?_⟩
        exact q _ H2 F2 y2 (r.grow y2 y3 y1 y6) (newV_vr r ⟨p, rfl, y4, y5, .lst y7 y8⟩)
      · exact False.elim q
theorem se_sitems {X : Cx} {T : List Addr} {W : WX} {p apos cpos pos py : Pos} {k i : Nat} {y : Str} (g : Go X W k) (hN : X.N[i]? = some y) (hv : Vis X.env.scope y) (hg : Gl X "sorted") (hm : X.mg "sorted" = none) (hdb : (y == ("__debug__" : Str)) = false := by decide) (hcd : (y == ("__classdict__" : Str)) = false := by decide)
    (hbase : attributeBase (.Name y py) "items" X.env (eval (.Name y py) X.env) = eval (.Name y py) X.env := by rfl) (hline : (apos.endLine == cpos.line) = true := by rfl)
    (hs : starEach [.Call (.Attribute (.Name y py) "items" apos) [] [] cpos] X.env = (false, eval (.Call (.Attribute (.Name y py) "items" apos) [] [] cpos) X.env) :: starEach [] X.env := by rfl) :
    SE X T W (.Call (.Name "sorted" p) [.Call (.Attribute (.Name y py) "items" apos) [] [] cpos] [] pos) (eSIt i) :=
  PE.mono (pe_sortItems g.cm g.u (pe_var hN hv hdb hcd) hg hm hbase hline hs) fun _ _ _ => eSIt_ok
end Py
end
section
set_option Elab.async false
set_option linter.all false
set_option maxRecDepth 100000
set_option maxHeartbeats 4000000
/-! Expressions in a generator expression's frame: evaluated to data, nothing that stood is changed. -/
namespace Py
open PySem PySem.Spec PyProof.Rows
open L2 (V HO Hp upd)


/-- what the frame and the heap tell: the module's names; the names ns with their data nm -/
structure Gn (mg : Str → Option Value) (cenv : Env) (ns : List Str) (nm : List PyData) (s : Shared) : Prop where
  kind : cenv.scope.kind = .function
  G : s.heap.Ns cenv.globals mg
  B : ∃ mb, s.heap.Ns cenv.builtins mb ∧ ∀ y : Str, y ≠ "__name__" → mb y = bootBuiltins y
  N : ∀ (i : Nat) y d, ns[i]? = some y → nm[i]? = some d → ∃ v as, Reads s.heap v d as ∧ ((∃ m, cenv.kindOf y = some .local ∧ s.heap.Ns cenv.locals m ∧ m y = some v) ∨ ∃ c, cenv.kindOf y = some .free ∧ cenv.cells.lookup y = some c ∧ s.heap.IsCell c (some v))
theorem Gn.up {mg : Str → Option Value} {cenv : Env} {ns : List Str} {nm : List PyData} {s s' : Shared} (g : Gn mg cenv ns nm s) (k : ∀ b o, s.heap.get? b = some o → s'.heap.get? b = some o) : Gn mg cenv ns nm s' := by
  refine ⟨g.kind, g.G.keeps k, let ⟨mb, b1, b2⟩ := g.B; ⟨mb, b1.keeps k, b2⟩, fun i y d m m2 => ?_⟩
  obtain ⟨v, as, r, h⟩ := g.N i y d m m2
  refine ⟨v, as, Reads.keeps k r, ?_⟩
  rcases h with ⟨m, h1, h2, h3⟩ | ⟨c, h1, h2, o, e, h3⟩
  · exact .inl ⟨m, h1, h2.keeps k, h3⟩
  · exact .inr ⟨c, h1, h2, o, k _ _ e, h3⟩
/-- the meaning of an expression in such a frame -/
abbrev XV := List PyData → Option PyData
def xC (d : PyData) : XV := fun _ => some d
def xN (i : Nat) : XV := fun nm => nm[i]?
def xB : Option PyData → Option Bool
  | some (.bool b) => some b
  | _ => none
theorem xB_some {o : Option PyData} {b : Bool} (h : xB o = some b) : o = some (.bool b) := by
  unfold xB at h
  split at h
  · rename_i q; rw [← Option.some.inj h]
  · cases h
def xAnd (a b : XV) : XV := fun nm => match xB (a nm) with
  | some true => (xB (b nm)).map .bool
  | some false => some (.bool false)
  | none => none
def xOr (a b : XV) : XV := fun nm => match xB (a nm) with
  | some false => (xB (b nm)).map .bool
  | some true => some (.bool true)
  | none => none
def xNot (a : XV) : XV := fun nm => (xB (a nm)).map fun b => .bool (!b)
abbrev CV := PyData → PyData → Option Bool
def xCmp (c : CV) (a b : XV) : XV := fun nm => match a nm, b nm with
  | some x, some y => (c x y).map .bool
  | _, _ => none
def xCh (c1 c2 : CV) (a b c : XV) : XV := fun nm => match a nm, b nm with
  | some x, some y => match c1 x y with
    | some true => match c nm with
      | some z => (c2 y z).map .bool
      | none => none
    | some false => some (.bool false)
    | none => none
  | _, _ => none
def xIsa (t : String) (a : XV) : XV := fun nm => match a nm with
  | some d => (isaD t d).map .bool
  | none => none
/-- e evaluates to what g says; nothing that stood is changed -/
def RE (prog : Program) (w : World) (mg : Str → Option Value) (cenv : Env) (U : Nat) (ns : List Str) (e : Expr) (g : XV) : Prop :=
  ∀ (A : Around) (E : Value → Shared → Prop) (s : Shared) (Q : Value → Shared → Prop) (nm : List PyData) (d : PyData), A.handled = none → A.units ≤ U → Gn mg cenv ns nm s → g nm = some d →
    (∀ v h' tk as, (∀ b o, s.heap.get? b = some o → h'.get? b = some o) → Reads h' v d as → Q v { s with heap := h', toks := tk }) → wpAny (model prog w) A (eval e cenv) Q E s
section
variable {prog : Program} {w : World} {mg : Str → Option Value} {cenv : Env} {U : Nat} {ns : List Str} {nm : List PyData} {a b c : Expr} {f g k : XV} {pos p p2 : Pos}
theorem re_int {i : Int} {j : Nat} : RE prog w mg cenv U ns (.Constant (.int i) j pos) (xC (.int i)) := fun A E s Q nm d _ _ _ q k => by
  cases q
  exact wpAny_Constant_int (k _ s.heap _ _ (fun _ _ e => e) (.int i _))
theorem re_str {x : Str} {j : Nat} : RE prog w mg cenv U ns (.Constant (.str x) j pos) (xC (.str x)) := fun A E s Q nm d _ _ _ q k => by
  cases q
  exact Calls.Constant_str (k _ s.heap _ _ (fun _ _ e => e) (.str x _))
theorem re_bool {x : Bool} {j : Nat} : RE prog w mg cenv U ns (.Constant (.bool x) j pos) (xC (.bool x)) := fun A E s Q nm d _ _ _ q k => by
  cases q
  exact Constant_bool (k _ s.heap s.toks _ (fun _ _ e => e) (.bool x))
theorem re_none {j : Nat} : RE prog w mg cenv U ns (.Constant .none j pos) (xC .none) := fun A E s Q nm d _ _ _ q k => by
  cases q
  exact Constant_none (k _ s.heap s.toks _ (fun _ _ e => e) .none)
theorem re_name {y : Str} {i : Nat} (h : ns[i]? = some y) (hd : (y == ("__debug__" : Str)) = false := by decide) (hcd : (y == ("__classdict__" : Str)) = false := by decide) : RE prog w mg cenv U ns (.Name y pos) (xN i) := fun A E s Q nm d _ _ g q k => by
  obtain ⟨v, as, r, h | h⟩ := g.N i y d h q
  · obtain ⟨m, h1, h2, h3⟩ := h
    exact wpAny_Name (wpAny_loadName_local g.kind h1 h2 h3 (k v s.heap s.toks as (fun _ _ e => e) r)) hd
  · obtain ⟨c, h1, h2, h3⟩ := h
    exact wpAny_Name (wpAny_loadName_free g.kind h1 h2 h3 (k v s.heap s.toks as (fun _ _ e => e) r) hcd) hd
theorem re_glob {y : Str} {d0 : PyData} {v0 : Value} (hk : cenv.kindOf y = some .globalImplicit) (hm : mg y = some v0) (hr : ∀ h, ∃ as, Reads h v0 d0 as) (hd : (y == ("__debug__" : Str)) = false := by decide) : RE prog w mg cenv U ns (.Name y pos) (xC d0) := fun A E s Q nm d _ _ g q k => by
  cases q
  obtain ⟨as, r⟩ := hr s.heap
  exact Calls.Name_function_global g.kind hk (Calls.loadGlobal_global g.G hm (k _ s.heap s.toks _ (fun _ _ e => e) r)) hd
theorem re_blt {y : Str} {u : Value} {A : Around} {E : Value → Shared → Prop} {s : Shared} {Q : Value → Shared → Prop} (g : Gn mg cenv ns nm s) (hk : cenv.kindOf y = some .globalImplicit) (hm : mg y = none) (hb : bootBuiltins y = some u) (h : Q u s) (hn : y ≠ "__name__" := by decide) (hd : (y == ("__debug__" : Str)) = false := by decide) :
    wpAny (model prog w) A (eval (.Name y pos) cenv) Q E s := by
  obtain ⟨mb, b1, b2⟩ := g.B
  exact Calls.Name_function_global g.kind hk (Calls.loadGlobal_builtin g.G hm b1 ((b2 y hn).trans hb) h) hd
theorem re_and {r : List Expr} (ha : RE prog w mg cenv U ns a f) (hb : RE prog w mg cenv U ns (.BoolOp .And (b :: r) pos) g) : RE prog w mg cenv U ns (.BoolOp .And (a :: b :: r) pos) (xAnd f g) := fun A E s Q nm d hh hu gn q k => by
  unfold xAnd at q
  split at q
  · rename_i q1
    obtain ⟨y, q2, rfl⟩ := Option.map_eq_some_iff.mp q
    refine BoolOp_and (ha A E s _ nm _ hh hu gn (xB_some q1) fun v h' tk as hk r => ?_)
    cases r
    refine wpAny_truthy_bool ?_
    exact hb A E _ _ nm _ hh hu (gn.up hk) (xB_some q2) fun v h2 tk2 as k2 r => k v h2 tk2 as (fun b o e => k2 b o (hk b o e)) r
  · rename_i q1
    cases q
    refine BoolOp_and (ha A E s _ nm _ hh hu gn (xB_some q1) fun v h' tk as hk r => ?_)
    cases r
    refine wpAny_truthy_bool ?_
    exact k _ h' tk _ hk (.bool false)
  · cases q
theorem re_or {r : List Expr} (ha : RE prog w mg cenv U ns a f) (hb : RE prog w mg cenv U ns (.BoolOp .Or (b :: r) pos) g) : RE prog w mg cenv U ns (.BoolOp .Or (a :: b :: r) pos) (xOr f g) := fun A E s Q nm d hh hu gn q k => by
  unfold xOr at q
  split at q
  · rename_i q1
    obtain ⟨y, q2, rfl⟩ := Option.map_eq_some_iff.mp q
    refine BoolOp_or (ha A E s _ nm _ hh hu gn (xB_some q1) fun v h' tk as hk r => ?_)
    cases r
    refine wpAny_truthy_bool ?_
    exact hb A E _ _ nm _ hh hu (gn.up hk) (xB_some q2) fun v h2 tk2 as k2 r => k v h2 tk2 as (fun b o e => k2 b o (hk b o e)) r
  · rename_i q1
    cases q
    refine BoolOp_or (ha A E s _ nm _ hh hu gn (xB_some q1) fun v h' tk as hk r => ?_)
    cases r
    refine wpAny_truthy_bool ?_
    exact k _ h' tk _ hk (.bool true)
  · cases q
theorem re_one {op : BoolOp} (ha : RE prog w mg cenv U ns a f) : RE prog w mg cenv U ns (.BoolOp op [a] pos) f := fun A E s Q nm d hh hu g q k => BoolOp_one (ha A E s Q nm d hh hu g q k)
theorem re_not (ha : RE prog w mg cenv U ns a f) : RE prog w mg cenv U ns (.UnaryOp .Not a pos) (xNot f) := fun A E s Q nm d hh hu g q k => by
  obtain ⟨y, q2, rfl⟩ := Option.map_eq_some_iff.mp q
  refine UnaryOp_ (ha A E s _ nm _ hh hu g (xB_some q2) fun v h' tk as hk r => ?_)
  cases r
  exact not_of (wpAny_truthy_bool (k _ h' tk _ hk (.bool _)))
/-- a comparison of two data, evaluated -/
def RC (prog : Program) (w : World) (U : Nat) (op : CmpOp) (c : CV) : Prop := ∀ (A : Around) (E : Value → Shared → Prop) (s : Shared) (Q : Value → Shared → Prop) (u v : Value) (as bs : List Addr) (x y : PyData) (z : Bool), A.handled = none → A.units ≤ U → c x y = some z → Reads s.heap u x as → Reads s.heap v y bs → Q (.bool z) s → wpAny (model prog w) A (compareOp op u v) Q E s
def cI (f : Int → Int → Bool) : CV
  | .int i, .int j => some (f i j)
  | _, _ => none
theorem cI_some {f : Int → Int → Bool} {x y : PyData} {z : Bool} (h : cI f x y = some z) : ∃ i j, x = .int i ∧ y = .int j ∧ z = f i j := by
  unfold cI at h
  split at h
  · cases h; exact ⟨_, _, rfl, rfl, rfl⟩
  · cases h
def cLe : CV := cI fun i j => decide (i ≤ j)
def cLt : CV := cI fun i j => decide (i < j)
def cGe : CV := cI fun i j => decide (j ≤ i)
def cGt : CV := cI fun i j => decide (j < i)
def cEq : CV := fun x y => if SeqAt.shaped x && SeqAt.shaped y then some (PyData.eqv x y) else none
def cNe : CV := fun x y => if SeqAt.shaped x && SeqAt.shaped y then some (!PyData.eqv x y) else none
theorem rg_le : RC prog w U .LtE cLe := fun A E s Q u v as bs x y z _ _ c ru rv q => by obtain ⟨i, j, rfl, rfl, rfl⟩ := cI_some c; cases ru; cases rv; exact le_int q
theorem rg_lt : RC prog w U .Lt cLt := fun A E s Q u v as bs x y z _ _ c ru rv q => by obtain ⟨i, j, rfl, rfl, rfl⟩ := cI_some c; cases ru; cases rv; exact lt_int q
theorem rg_ge : RC prog w U .GtE cGe := fun A E s Q u v as bs x y z _ _ c ru rv q => by obtain ⟨i, j, rfl, rfl, rfl⟩ := cI_some c; cases ru; cases rv; exact ge_int q
theorem rg_gt : RC prog w U .Gt cGt := fun A E s Q u v as bs x y z _ _ c ru rv q => by obtain ⟨i, j, rfl, rfl, rfl⟩ := cI_some c; cases ru; cases rv; exact gt_int q
theorem rg_eq (hU : U + 64 < cLine) : RC prog w U .Eq cEq := fun A E s Q u v as bs x y z _ hu c ru rv q => by
  unfold cEq at c
  split at c
  · rename_i h
    rw [Bool.and_eq_true] at h
    cases c
    exact SeqAt.compareEq_shaped ru rv h.1 h.2 (by omega) q
  · cases c
theorem rg_ne (hU : U + 64 < cLine) : RC prog w U .NotEq cNe := fun A E s Q u v as bs x y z _ hu c ru rv q => by
  unfold cNe at c
  split at c
  · rename_i h
    rw [Bool.and_eq_true] at h
    cases c
    exact SeqAt.compareNe_shaped ru rv h.1 h.2 (by omega) q
  · cases c
theorem re_cmp {op : CmpOp} {cc : CV} (ha : RE prog w mg cenv U ns a f) (hb : RE prog w mg cenv U ns b g) (hc : RC prog w U op cc) (hm : behindInMarks op b = false := by with_unfolding_all rfl) : RE prog w mg cenv U ns (.Compare a [op] [b] pos) (xCmp cc f g) := fun A E s Q nm d hh hu gn q k => by
  unfold xCmp at q
  split at q
  · rename_i x y q1 q2
    obtain ⟨z, q3, rfl⟩ := Option.map_eq_some_iff.mp q
    refine wpAny_Compare1 (ha A E s _ nm _ hh hu gn q1 fun v h' tk as hk ra => hb A E _ _ nm _ hh hu (gn.up hk) q2 fun v2 h2 tk2 bs hk2 rb => ?_) hm
    exact hc A E _ _ v v2 _ _ _ _ _ hh hu q3 (Reads.keeps hk2 ra) rb (k _ h2 tk2 _ (fun b o e => hk2 b o (hk b o e)) (.bool z))
  · cases q
theorem re_chain {op op' : CmpOp} {c1 c2 : CV} (ha : RE prog w mg cenv U ns a f) (hb : RE prog w mg cenv U ns b g) (hc : RE prog w mg cenv U ns c k) (h1 : RC prog w U op c1) (h2 : RC prog w U op' c2) (hm : lastMarks [op, op'] [b, c] = false := by with_unfolding_all rfl) :
    RE prog w mg cenv U ns (.Compare a [op, op'] [b, c] pos) (xCh c1 c2 f g k) := fun A E s Q nm d hh hu gn q kk => by
  unfold xCh at q
  split at q
  · rename_i x y q1 q2
    split at q
    · rename_i q3
      split at q
      · rename_i z q4
        obtain ⟨b0, q5, rfl⟩ := Option.map_eq_some_iff.mp q
        refine Compare_chain (ha A E s _ nm _ hh hu gn q1 fun v h' tk as hk ra => chain_link (hb A E _ _ nm _ hh hu (gn.up hk) q2 fun v2 h2' tk2 bs hk2 rb => h1 A E _ _ v v2 _ _ _ _ _ hh hu q3 (Reads.keeps hk2 ra) rb ?_)) hm
        refine wpAny_truthy_bool ?_
        refine chain_last (hc A E _ _ nm _ hh hu ((gn.up hk).up hk2) q4 fun v3 h3 tk3 cs hk3 rc => h2 A E _ _ v2 v3 _ _ _ _ _ hh hu q5 (Reads.keeps hk3 rb) rc ?_)
        exact kk _ h3 tk3 _ (fun b o e => hk3 b o (hk2 b o (hk b o e))) (.bool b0)
      · cases q
    · rename_i q3
      cases q
      refine Compare_chain (ha A E s _ nm _ hh hu gn q1 fun v h' tk as hk ra => chain_link (hb A E _ _ nm _ hh hu (gn.up hk) q2 fun v2 h2' tk2 bs hk2 rb => h1 A E _ _ v v2 _ _ _ _ _ hh hu q3 (Reads.keeps hk2 ra) rb ?_)) hm
      refine wpAny_truthy_bool ?_
      exact kk _ h2' tk2 _ (fun b o e => hk2 b o (hk b o e)) (.bool false)
    · cases q
  · cases q
theorem re_isa {t : String} {ty : Str} (hk : cenv.kindOf "isinstance" = some .globalImplicit) (hm : mg "isinstance" = none) (hk2 : cenv.kindOf ty = some .globalImplicit) (hm2 : mg ty = none) (hb : bootBuiltins ty = some (.type t)) (ha : RE prog w mg cenv U ns a f)
    (hs1 : starEach [a, .Name ty p2] cenv = (false, eval a cenv) :: starEach [.Name ty p2] cenv := by rfl) (hs2 : starEach [.Name ty p2] cenv = (false, eval (.Name ty p2) cenv) :: starEach [] cenv := by rfl) (hpl : (backTo pos (starEach [.Name ty p2] cenv)).any (·.1) = false := by rfl)
    (hn2 : ty ≠ "__name__" := by decide) (hd2 : (ty == ("__debug__" : Str)) = false := by decide) :
    RE prog w mg cenv U ns (.Call (.Name "isinstance" p) [a, .Name ty p2] [] pos) (xIsa t f) := fun A E s Q nm d hh hu gn q k => by
  unfold xIsa at q
  split at q
  · rename_i x q1
    obtain ⟨z, hz, rfl⟩ := Option.map_eq_some_iff.mp q
    refine wpAny_Call_Name_kw (re_blt gn hk hm PyProof.Rows.boot_isinstance ?_)
    refine PyProof.Rows.callWith_builtin1 ?_ hs1 hpl
    rw [hs1]
    show wpAny _ _ (spliced ((false, eval a cenv) :: backTo pos (starEach [.Name ty p2] cenv))) _ _ s
    refine Calls.spliced_cons (ha A E s _ nm _ hh hu gn q1 fun v h' tk as hk' rd => ?_)
    rw [hs2]
    show wpAny _ _ (spliced ((false, eval (.Name ty p2) cenv) :: backTo pos (starEach [] cenv))) _ _ _
    refine Calls.spliced_cons (re_blt (gn.up hk') hk2 hm2 hb (Calls.spliced_nil ?_) hn2 hd2)
    have fin : ∀ tk2, tk ≤ tk2 → Q (.bool z) { s with heap := h', toks := tk2 } := fun tk2 _ => k _ h' tk2 _ hk' (.bool z)
    unfold isaD at hz
    split at hz
    · cases hz; exact PySem.W.isinstance_int_data rd fin
    · cases hz; exact PySem.W.isinstance_bool_data rd fin
    · cases hz; exact PySem.W.isinstance_str_data rd fin
    · cases hz; exact PySem.W.isinstance_list_data rd fin
    · cases hz; exact PySem.W.isinstance_tuple_data rd fin
    · cases hz
  · cases q
end
end Py
end
section
set_option Elab.async false
set_option linter.all false
set_option maxRecDepth 100000
set_option maxHeartbeats 4000000
/-! all, any of a generator expression over a list or tuple of data. -/
namespace Py
open PySem PySem.Spec PyProof.Rows L2
open GxR (TabB TabG Tabbed GenS keeps_refl inv_tab sh_eta trF)

mutual
theorem reads_but {h h' : Heap} (hk : ∀ b o, h.get? b = some o → (∀ vs, o.data ≠ .fields vs) → h'.get? b = some o) : ∀ {v : Value} {d : PyData} {as : List Addr}, Reads h v d as → Reads h' v d as
  | _, _, _, .none => .none
  | _, _, _, .bool b => .bool b
  | _, _, _, .int i t => .int i t
  | _, _, _, .str x t => .str x t
  | _, _, _, .list h1 h2 h3 h4 => .list (hk _ _ h1 fun vs e => by rw [h3] at e; cases e) h2 h3 (readsAll_but hk h4)
  | _, _, _, .tuple h1 h2 h3 h4 => .tuple (hk _ _ h1 fun vs e => by rw [h3] at e; cases e) h2 h3 (readsAll_but hk h4)
  | _, _, _, .dict h1 h2 h3 h4 h5 => .dict (hk _ _ h1 fun vs e => by rw [h3] at e; cases e) h2 h3 (readsAll_but hk h4) (readsAll_but hk h5)
theorem readsAll_but {h h' : Heap} (hk : ∀ b o, h.get? b = some o → (∀ vs, o.data ≠ .fields vs) → h'.get? b = some o) : ∀ {vs : List Value} {ds : List PyData} {as : List Addr}, ReadsAll h vs ds as → ReadsAll h' vs ds as
  | _, _, _, .nil => .nil
  | _, _, _, .cons h1 h2 => .cons (reads_but hk h1) (readsAll_but hk h2)
end
theorem readsAll_get {h : Heap} : ∀ {vs : List Value} {ds : List PyData} {as : List Addr}, ReadsAll h vs ds as → ∀ (i : Nat) v, vs[i]? = some v → ∃ d bs, ds[i]? = some d ∧ Reads h v d bs
  | _, _, _, .nil, i, v, e => by simp at e
  | _, _, _, .cons h1 h2, 0, v, e => by simp at e; subst e; exact ⟨_, _, rfl, h1⟩
  | _, _, _, .cons h1 h2, i + 1, v, e => by
    obtain ⟨d, bs, e2, r⟩ := readsAll_get h2 i v (by simpa using e)
    exact ⟨d, bs, by simpa using e2, r⟩
theorem readsAll_len {h : Heap} : ∀ {vs : List Value} {ds : List PyData} {as : List Addr}, ReadsAll h vs ds as → vs.length = ds.length
  | _, _, _, .nil => rfl
  | _, _, _, .cons h1 h2 => by simp [readsAll_len h2]
section
variable {X : Cx} {pins : List (Addr × Obj)} {σ : L2.St} {H : Hp} {s : Shared}
/-- a list or tuple, walked -/
theorem iter_seq {yl : Addr} {xs : List V} {ds : List PyData} (I : Inv X pins σ H s) (hx : SqL X.K H yl xs ∨ SqT X.K H yl xs) (hd : DpAll X.K H xs ds) :
    ∃ (its : List Value) (as : List Addr) (o : Obj) (St : Nat → Heap → Prop), ReadsAll s.heap its ds as ∧ its.length = ds.length ∧ yl < s.heap.objs.size ∧ (∀ ob, s.heap.get? yl = some ob → ∀ vs, ob.data ≠ .fields vs) ∧
      (∀ (A : Around) E (Q : Value → Shared → Prop), A.handled = none → Q (.ref s.heap.objs.size) { s with heap := s.heap.push o } → wpAny (model X.prog X.w) A (pyIter (.ref yl)) Q E s) ∧
      (∀ A' : Around, A'.handled = none → Walks X.prog X.w A' s.heap.objs.size [s.heap.objs.size, yl] [s.heap.objs.size] its.length (fun i v => its[i]? = some v) St) ∧ St 0 (s.heap.push o) := by
  rcases hx with hx | hx
  · obtain ⟨its, rv, hl, hz⟩ := I.list hx
    obtain ⟨as, hr⟩ := Dp.readsAll I ds xs its hd rv
    have hIL := hl.isList
    have hlt : yl < s.heap.objs.size := let ⟨_, e, _⟩ := hIL; Heap.lt_size e
    refine ⟨its, as, _, (fun i h => h.IsListIter s.heap.objs.size yl i ∧ h.IsList yl its.toArray), hr, readsAll_len hr, hlt, fun ob e vs => ?_, fun A E Q _ q => wpAny_pyIter_list hIL q, fun A' hA => ?_, ⟨_, Heap.get?_push_size _ rfl, rfl, rfl⟩, ?_⟩
    · obtain ⟨o, e1, _, n, e2⟩ := _root_.id hIL
      rw [e] at e1; cases e1
      rw [e2]
      exact fun z => by cases z
    · have W := Walks.list (prog := X.prog) (w := X.w) hA s.heap.objs.size yl (Nat.ne_of_lt hlt) its.toArray
      rw [List.size_toArray] at W
      simpa using W
    · exact hIL.push _
  · obtain ⟨its, rv, hl, hz⟩ := I.tuple hx
    obtain ⟨as, hr⟩ := Dp.readsAll I ds xs its hd rv
    have hIL : s.heap.IsTuple yl its.toArray := hl
    have hlt : yl < s.heap.objs.size := let ⟨_, e, _⟩ := hl; Heap.lt_size e
    refine ⟨its, as, _, (fun i h => h.IsTupleIter s.heap.objs.size yl i ∧ h.IsTuple yl its.toArray), hr, readsAll_len hr, hlt, fun ob e vs => ?_, fun A E Q _ q => wpAny_pyIter_tuple hIL q, fun A' hA => ?_, ⟨_, Heap.get?_push_size _ rfl, rfl, rfl⟩, ?_⟩
    · obtain ⟨o, e1, _, n, e2⟩ := _root_.id hIL
      rw [e] at e1; cases e1
      rw [e2]
      exact fun z => by cases z
    · have W := Walks.tuple (prog := X.prog) (w := X.w) hA s.heap.objs.size yl (Nat.ne_of_lt hlt) its.toArray
      rw [List.size_toArray] at W
      simpa using W
    · obtain ⟨o, e, r⟩ := _root_.id hIL
      exact ⟨o, Heap.get?_push_of_some _ e, r⟩

/-- the captured names: their slots in the def -/
def capC (N : List Str) (outer scope : Scope) (cn : List Str) (cs : List Nat) : Bool :=
  decide (cn.length = cs.length) && (cn.zip cs).all fun p => decide (N[p.2]? = some p.1) && decide ((p.1, NameKind.free) ∈ scope.names) && decide (scope.names.lookup p.1 = some .free) && (decide (outer.names.lookup p.1 = some .cell) || decide (outer.names.lookup p.1 = some .free))
theorem capC_get {N : List Str} {outer scope : Scope} {cn : List Str} {cs : List Nat} (h : capC N outer scope cn cs = true) {i : Nat} {y : Str} (e : cn[i]? = some y) :
    ∃ j, cs[i]? = some j ∧ N[j]? = some y ∧ (y, NameKind.free) ∈ scope.names ∧ scope.names.lookup y = some .free ∧ (outer.names.lookup y = some .cell ∨ outer.names.lookup y = some .free) := by
  unfold capC at h
  rw [Bool.and_eq_true, List.all_eq_true] at h
  have hl := of_decide_eq_true h.1
  have hi := (List.getElem?_eq_some_iff.mp e).1
  have e2 : cs[i]? = some (cs[i]'(by omega)) := List.getElem?_eq_getElem _
  have m := h.2 (y, cs[i]'(by omega)) (List.mem_of_getElem? (i := i) (by rw [List.getElem?_zip_eq_some]; exact ⟨e, e2⟩))
  simp only [Bool.and_eq_true, Bool.or_eq_true, decide_eq_true_eq] at m
  exact ⟨_, e2, m.1.1.1, m.1.1.2, m.1.2, m.2⟩
/-- the generator, ready to be walked, in the state s5; H1: what was held before -/
def ReadyD (X : Cx) (pins : List (Addr × Obj)) (σ : L2.St) (H1 : Hp) (P : Addr) (bs : List Bool) (g : Addr) (s5 : Shared) : Prop :=
  ∃ (fp wr : List Addr) (G : Array GenState → Array GenState → Prop) (F : Nat → Value → Prop) (St : Nat → Shared → Prop),
    WalksS X.prog X.w X.A.in1 g fp wr G bs.length F St ∧ St 0 s5 ∧ TruthOf X.prog X.w X.A.in1 F (fun j => bs.getD j false) ∧
    ∀ s', Moved wr G s5 s' → ∃ H2, Tabbed P H1 H2 ∧ Inv X pins σ H2 s'

theorem gen_dat {c P : Addr} {elt iter : Expr} {x : Str} {px gpos : Pos} {scope : Scope} {cn : List Str} {cs : List Nat} {gx : XV} {te : TE} {k : Nat} {Q' : Value → Shared → Prop} {RR : List Bool → Hp → Prop}
    (hr : Room k X.A) (TB : TabB X.base X.mg c P) (hcode : X.env.code = .ref c) (S : GenS X.env scope x) (hi : PE X iter te) (hcap : capC X.N X.env.scope scope cn cs = true)
    (hel : ∀ cenv : Env, cenv.scope = scope → RE X.prog X.w X.mg cenv (X.A.units + 8) (x :: cn) elt gx)
    (hs : ∀ v, genFold iter X.env v = pure v) (I : Inv X pins σ H s) (h : te σ H fun v H1 => ∃ (yl : Addr) (xs : List V) (ds cds : List PyData) (bs : List Bool), v = .ref yl ∧ (SqL X.K H1 yl xs ∨ SqT X.K H1 yl xs) ∧ DpAll X.K H1 xs ds ∧ TabG H1 P ∧
      (∀ (i j : Nat) d, cs[i]? = some j → cds[i]? = some d → ∃ v, σ[j]? = some (some v) ∧ Dp X.K H1 v d) ∧ bs.length = ds.length ∧ (∀ i d, ds[i]? = some d → gx (d :: cds) = some (.bool (bs.getD i false))) ∧ RR bs H1)
    (hQ : ∀ bs H1 g s5, RR bs H1 → ReadyD X pins σ H1 P bs g s5 → Q' (.ref g) s5) :
    wpAny (model X.prog X.w) X.A (eval (.GeneratorExp elt [⟨.Name x px, iter, [], 0⟩] scope gpos) X.env) Q' X.xe s := by
  refine wpAny_GeneratorExp_walksQD hr.hd S.co (closure_ok S.free) S.cell S.dot S.loc S.kind (by have := hr.dp; omega) ?_ hs
  refine thn (hi.run pins s σ H _ I h) fun xv s1 ⟨v, H1, I1, r1, q1⟩ => ?_
  obtain ⟨yl, xs, ds, cds, bs, rfl, hyl, hds, ⟨ps, hP, ht⟩, hcd, hbl, hgx, q1⟩ := q1
  obtain rfl : xv = Value.ref yl := r1
  obtain ⟨its, as, o, St, hrd, hlen, hylt, hylf, hit, W, hst⟩ := iter_seq I1 hyl hds
  refine hit _ _ _ hr.hd ?_
  have hPs : s1.heap.get? P = some { cls := .none, data := .fields ps } := I1.hok P _ hP
  have hPlt : P < s1.heap.objs.size := Heap.lt_size hPs
  have hP2 : (s1.heap.push o).get? P = some { cls := .none, data := .fields ps } := Heap.get?_push_of_some _ hPs
  have cd : PySem.W.CodeHd (s1.heap.push o) c P := TB.code.keeps fun b u e => Heap.get?_push_of_some _ (I1.bk b u e)
  have lim2 : (s1.heap.push o).NoLimit := I1.nolimit.push o
  have hylP : yl ≠ P := fun z => hylf _ (z ▸ hPs) ps rfl
  have cont : ∀ (code : Value) (h3 : Heap) (tk : Nat) (ps' : Array Value), Heap.ExtBut P (s1.heap.push o) h3 → (s1.heap.push o).objs.size ≤ h3.objs.size → h3.get? P = some { cls := .none, data := .fields ps' } → (∃ more, ps' = ps ++ more) → TriplesOk ps'.toList →
      wpAny (model X.prog X.w) X.A (builtinsFor X.env.globals X.env.builtins) (fun bi s₄ =>
        ∃ Ia fp wr n₀ Pf St₀ pz F, Value.ref s1.heap.objs.size = .ref Ia ∧ (∀ A' : Around, A'.handled = none → Walks X.prog X.w A' Ia fp wr n₀ Pf St₀) ∧ St₀ 0 s₄.heap ∧ (∀ b ∈ fp, b < s₄.heap.objs.size) ∧ s₄.heap.NoLimit ∧ cStatics ∉ wr ∧
          (∀ href : Heap, (∀ b o, s₄.heap.get? b = some o → href.get? b = some o) →
            QuietGenD X.prog X.w (genEnv scope (cloFrom X.env.cells scope.names []) s₄.heap.objs.size code bi X.env) x [] elt (List.range s₄.heap.objs.size) wr Pf pz F href (X.A.depth + 1) (X.A.units + 8)) ∧
          (∀ a h₅ tk gs, gs.bare = true → s₄.heap.objs.size < a → h₅.objs.size = a + 1 → (∀ b o, s₄.heap.get? b = some o → h₅.get? b = some o) →
            WalksS X.prog X.w X.A.in4 a (a :: s₄.heap.objs.size :: List.range s₄.heap.objs.size) (s₄.heap.objs.size :: wr) (GenOnlyQ s₄.gens.size) (passing pz n₀ 0).length
              (fun j y => ∃ i, (passing pz n₀ 0)[j]? = some i ∧ F i y) (GenAt X.prog X.w X.A.in4 a s₄.gens.size s₄.heap.objs.size (List.range s₄.heap.objs.size) wr pz n₀ F) →
            GenAt X.prog X.w X.A.in4 a s₄.gens.size s₄.heap.objs.size (List.range s₄.heap.objs.size) wr pz n₀ F 0 { s₄ with gens := s₄.gens.push gs, toks := tk, heap := h₅ } →
            Q' (.ref a) { s₄ with gens := s₄.gens.push gs, toks := tk, heap := h₅ })) X.xe { s1 with heap := h3, toks := tk } := by
    intro code h3 tk ps' hx hsz hP3 hmore ht3
    obtain ⟨bm, ob, e1, e2, e3, e4, e5, e6, e7, e8⟩ := TB.bm
    have hcP : cStatics ≠ P := fun e => by
      obtain ⟨_, hns, _⟩ := I1.nolimit
      obtain ⟨o', es, ep, ho, hd, _⟩ := hns
      rw [e, hPs] at ho
      cases ho
      cases hd
    have hcl : cStatics < s1.heap.objs.size := let ⟨_, hns, _⟩ := I1.nolimit; hns.lt
    have sz2 : (s1.heap.push o).objs.size = s1.heap.objs.size + 1 := Heap.size_push ..
    have keep3 : ∀ b u, b ≠ P → s1.heap.get? b = some u → h3.get? b = some u := fun b u hb e => hx b u hb (Heap.get?_push_of_some _ e)
    refine wpAny_builtinsFor (m := X.mg) (by rw [I1.ok.glob]; exact ((I1.mod.glob.keeps I1.bk).push o).extBut hx TB.gP) e1 e2 (keep3 _ _ e4 (I1.bk _ _ e5)) e6 e7 e8 ?_
    refine ⟨s1.heap.objs.size, [s1.heap.objs.size, yl], [s1.heap.objs.size], its.length, (fun i v => its[i]? = some v), St, (fun _ => true),
      (fun i y => y = .bool (bs.getD i false)), rfl, W, ?_, ?_, lim2.extBut hx hcP, ?_, ?_, ?_⟩
    · refine (W X.A hr.hd).frame _ _ _ hst fun b hb u e => hx b u (fun z => ?_) e
      rcases List.mem_cons.mp hb with z2 | z2
      · exact Nat.ne_of_lt hPlt (z.symm.trans z2)
      · rcases List.mem_cons.mp z2 with z2 | z2
        · exact hylP (z2.symm.trans z)
        · cases z2
    · intro b hb
      rcases List.mem_cons.mp hb with z | z
      · rw [z]
        show s1.heap.objs.size < h3.objs.size
        omega
      · rcases List.mem_cons.mp z with z | z
        · rw [z]
          have e9 : s1.heap.objs.size ≤ h3.objs.size := by omega
          exact Nat.lt_of_lt_of_le hylt e9
        · cases z
    · intro z
      rcases List.mem_cons.mp z with z | z
      · exact Nat.ne_of_lt hcl z
      · cases z
    · intro href hhref
      refine ⟨fun A' E' i v s₂ m₂ hA hD hU hPv hn hm hk => ?_, fun A' E' i v s₂ m₂ hA hD hU hPv hp hn hm hk => ?_⟩
      · simp only [List.forIn_nil]
        exact wpAny_pure ⟨rfl, keeps_refl _⟩
      · obtain ⟨d, bs', hdi, rd⟩ := readsAll_get hrd i v hPv
        have old : ∀ b u, s1.heap.get? b = some u → b ≠ P → s₂.heap.get? b = some u := fun b u e hb => by
          have hl := Heap.lt_size e
          refine hk b (List.mem_range.mpr ?_) (fun z => ?_) u (hhref _ _ (keep3 b u hb e))
          · show b < h3.objs.size
            have e9 : s1.heap.objs.size ≤ h3.objs.size := by omega
            exact Nat.lt_of_lt_of_le hl e9
          · rcases List.mem_cons.mp z with z | z
            · exact Nat.ne_of_lt hl z
            · cases z
        have oldF : ∀ b u, s1.heap.get? b = some u → (∀ vs, u.data ≠ .fields vs) → s₂.heap.get? b = some u := fun b u e hf => old b u e fun z => by
          rw [z, hPs] at e
          cases e
          exact hf ps rfl
        have nsK : ∀ {a m}, s1.heap.Ns a m → s₂.heap.Ns a m := fun {a m} ⟨o', es, ep, e, hd', r⟩ => ⟨o', es, ep, oldF _ _ e (fun vs z => by rw [hd'] at z; cases z), hd', r⟩
        have hg := hgx i d hdi
        have gn : Gn X.mg (genEnv scope (cloFrom X.env.cells scope.names []) h3.objs.size code builtinsNs X.env) (x :: cn) (d :: cds) s₂ := by
          refine ⟨S.kind, ?_, ?_, fun i' y d' h1 h2 => ?_⟩
          · show s₂.heap.Ns X.env.globals X.mg
            rw [I1.ok.glob]
            exact nsK (I1.mod.glob.keeps I1.bk)
          · obtain ⟨mb, b1, b2⟩ := I1.mod.blt
            exact ⟨mb, nsK (b1.keeps I1.bk), b2⟩
          · cases i' with
            | zero =>
              cases h1
              cases h2
              exact ⟨v, bs', reads_but oldF rd, .inl ⟨m₂, S.loc, hn, hm⟩⟩
            | succ i' =>
              have h1 : cn[i']? = some y := by simpa using h1
              have h2 : cds[i']? = some d' := by simpa using h2
              obtain ⟨j, c1, c2, c3, c4, c5⟩ := capC_get hcap h1
              obtain ⟨vv, w1, w2⟩ := hcd i' j d' c1 h2
              obtain ⟨m, mn, ml⟩ := I1.loc
              obtain ⟨u, ru, lk⟩ := ml j y vv c2 w1 (c5.elim (fun z => .inr (.inl z)) fun z => .inr (.inr z))
              obtain ⟨as', r'⟩ := Dp.reads I1 d' vv u w2 ru
              rcases lk with ⟨z, _⟩ | ⟨_, c0, z2, o', z3, z4⟩
              · have z : X.env.scope.names.lookup y = some .local := z
                rcases c5 with c5 | c5 <;> rw [z] at c5 <;> cases c5
              · exact ⟨u, as', reads_but oldF r', .inr ⟨c0, c4, NdefX.clo_has S.free c3 z2, o', oldF _ _ z3 (fun vs z => by rw [z4] at z; cases z), z4⟩⟩
        exact hel _ rfl A' E' s₂ _ (d :: cds) _ hA hU gn hg fun v' h' tk' as' hk' rv' => by
          cases rv'
          exact ⟨rfl, h', tk', rfl, hk'⟩
    · intro g h5 tk5 gs hgb hag hsz5 hk5 W5 hgat
      simp only [GxR.passing_true, List.length_range] at W5
      have hn5 : its.length = bs.length := by omega
      rw [hn5] at W5 hgat
      refine hQ bs H1 g _ q1 ⟨_, _, _, _, _, W5.in4_1, hgat, ?_, fun s' hm => ?_⟩
      · intro j y sj Qj Ej hy hQj
        obtain ⟨i, hij, rfl⟩ := hy
        obtain ⟨hj, ej⟩ := List.getElem?_eq_some_iff.mp hij
        have ej : j = i := by simpa using ej
        subst ej
        exact wpAny_truthy_bool hQj
      · obtain ⟨more, em⟩ := hmore
        have nwr : ∀ b u, s1.heap.get? b = some u → b ∉ h3.objs.size :: [s1.heap.objs.size] := fun b u e hb => by
          have hl := Heap.lt_size e
          rcases List.mem_cons.mp hb with z | z
          · rw [z] at hl
            have h9 : (h3.objs.size : Nat) < s1.heap.objs.size := hl
            omega
          · rcases List.mem_cons.mp z with z | z
            · rw [z] at hl
              exact Nat.lt_irrefl _ hl
            · cases z
        have J := inv_tab (more := more) (h' := s'.heap) (g' := s'.gens) (d' := s'.drawn) (t' := s'.toks) I1 hP (fun b u hb e => hm.heap b u (nwr b u e) (hk5 b u (keep3 b u hb e)))
          (by rw [← em]; exact hm.heap P _ (nwr P _ hPs) (hk5 P _ hP3)) (AllBare.movedS (I1.bare.push hgb) hm)
        rw [sh_eta s1 s' hm.os] at J
        refine ⟨upd H1 P (.tbl (ps ++ more)), ⟨⟨ps ++ more, upd_same, by rw [← em]; exact ht3⟩, fun b hb => upd_ne hb⟩, J⟩
  refine ⟨lim2, ?_⟩
  cases hf : codeAmong gpos ps.toList with
  | none =>
    refine wpAny_genexprCodeX hcode (cd.code hP2 ht) (cd.tab hP2) hf fun c' h' tk hx hge hlt hco' _ htab' _ => ?_
    obtain ⟨o1, vs, f1, tf, fl, tg, inF, tx, tt, op, _, _, _, _, _, _, _, _, _, htr, _⟩ := hco'
    exact cont _ h' tk _ hx (Nat.le_trans hge (Nat.le_of_lt hlt)) htab'.2 ⟨_, rfl⟩ htr
  | some cv =>
    refine wpAny_genexprCode_hit hcode (cd.code hP2 ht) hf ?_
    exact cont cv (s1.heap.push o) s1.toks ps (Heap.ExtBut.refl _ _) (Nat.le_refl _) hP2 ⟨#[], by simp⟩ ht
end
end Py
end
section
set_option Elab.async false
set_option linter.all false
set_option maxRecDepth 100000
set_option maxHeartbeats 4000000
/-! all(...), any(...) of a generator expression: the meaning, the rule. -/
namespace Py
open PySem PySem.Spec PyProof.Rows L2
open GxR (TabB TabG Tabbed GenS)

def itD : PyData → Option (List PyData)
  | .list ds => some ds
  | .tuple ds => some ds
  | _ => none
def testsG (g : XV) (cds : List PyData) : List PyData → Option (List Bool)
  | [] => some []
  | d :: ds => match xB (g (d :: cds)), testsG g cds ds with
    | some b, some bs => some (b :: bs)
    | _, _ => none
def gOut (all : Bool) (g : XV) : List PyData → Option Bool
  | d :: cds => match itD d with
    | some ds => if d.canLay0 && cds.all (·.canLay0) then (testsG g cds ds).map (fun bs => if all then bs.all (fun b => b) else bs.any (fun b => b)) else none
    | none => none
  | [] => none
/-- all(g for x in a), any(g for x in a); cs: the slots of the captured names -/
def eGen (all : Bool) (a : Arg) (cs : List Nat) (g : XV) : EV := fun e => bnd (evA (a :: cs.map .pk) e) fun p => match gOut all g p.1 with
  | some b => .ok (.bool b, false, p.2)
  | none => .bad
theorem testsG_get {g : XV} {cds : List PyData} : ∀ {ds : List PyData} {bs : List Bool}, testsG g cds ds = some bs → bs.length = ds.length ∧ ∀ i d, ds[i]? = some d → g (d :: cds) = some (.bool (bs.getD i false))
  | [], bs, h => by
    simp only [testsG, Option.some.injEq] at h
    subst h
    exact ⟨rfl, fun i d e => by simp at e⟩
  | d :: ds, bs, h => by
    unfold testsG at h
    split at h
    · rename_i b bs' h1 h2
      cases h
      obtain ⟨h3, h4⟩ := testsG_get h2
      refine ⟨by simp [h3], fun i x e => ?_⟩
      cases i with
      | zero => cases e; simpa using xB_some h1
      | succ i => simpa using h4 i x (by simpa using e)
    · cases h
section
variable {K : Fr} {T : List Addr} {G F : Hp} {L : List (Nat × Addr)} {σ : L2.St} {H H2 : Hp} {e : Nv}
theorem Rel.tabbed (r : Rel K T G F L σ H e) {P : Addr} (hP : P ∈ T) (x : Tabbed P H H2) : Rel K T G F L σ H2 e := by
  obtain ⟨t, hF, hG⟩ := r.tb P hP
  have st : ∀ {b o}, b ≠ P → H b = some o → H2 b = some o := fun {b o} hb e => by rw [x.2 b hb]; exact e
  have ob : ∀ {a d}, Ob K F H a d → Ob K F H2 a d := fun {a d} o => o.ext (fun _ _ z => z) fun u z => st (fun q => o.notTab t q.symm) z
  refine ⟨r.len, fun a o z => st (fun q => by rw [q, hG] at z; cases z) (r.gH a o z), fun a o z => st (fun q => by rw [q, hF] at z; cases z) (r.fH a o z), r.gf, fun P' hP' => ?_, r.fz, fun i d h => ?_, fun i d h => ?_, r.lk, r.pin, r.apart⟩
  · obtain ⟨t', f', g'⟩ := r.tb P' hP'
    refine ⟨?_, f', g'⟩
    by_cases hz : P' = P
    · rw [hz]; exact x.1
    · obtain ⟨ps, z1, z2⟩ := t'
      exact ⟨ps, st hz z1, z2⟩
  · obtain ⟨a, x1, x2, x3, x4⟩ := r.own i d h
    exact ⟨a, x1, ob x2, x3, x4⟩
  · obtain ⟨a, x0, x1, x2, x3, x4⟩ := r.io i d h
    exact ⟨a, x0, x1, ob x2, x3, x4⟩
end
theorem tAs_vars {σ : L2.St} : ∀ {cs : List Nat} {H : Hp} {Q : List V → Hp → Prop}, tAs (cs.map fun i => tVar i) σ H Q → ∃ vs, Q vs H ∧ ∀ (i : Nat) (j : Nat), cs[i]? = some j → ∃ v, vs[i]? = some v ∧ σ[j]? = some (some v)
  | [], H, Q, h => ⟨[], h, fun i j e => by simp at e⟩
  | c :: cs, H, Q, h => by
    obtain ⟨v, h1, h2⟩ := h
    obtain ⟨vs, q, h3⟩ := tAs_vars (cs := cs) (Q := fun xs H => Q (v :: xs) H) h2
    refine ⟨v :: vs, q, fun i j e => ?_⟩
    cases i with
    | zero => cases e; exact ⟨v, rfl, h1⟩
    | succ i => simpa using h3 i j (by simpa using e)
theorem nowAll_get {K : Fr} {F H : Hp} : ∀ {vs : List V} {ds : List PyData}, NowAll K F H vs ds → ∀ {i : Nat} {v : V} {d : PyData}, vs[i]? = some v → ds[i]? = some d → Now K F H v d
  | [], [], _, i, v, d, e, _ => by simp at e
  | _ :: _, _ :: _, n, 0, v, d, e1, e2 => by cases e1; cases e2; exact n.1
  | _ :: _, _ :: _, n, i + 1, v, d, e1, e2 => nowAll_get n.2 (i := i) (by simpa using e1) (by simpa using e2)
  | [], _ :: _, n, _, _, _, _, _ => n.elim
  | _ :: _, [], n, _, _, _, _, _ => n.elim
section
variable {X : Cx} {T : List Addr} {W : WX}
theorem call_genS {all : Bool} {P : Addr} {bs : List Bool} {g : Addr} {s5 : Shared} {pins : List (Addr × Obj)} {σ : L2.St} {H1 : Hp} {Q : VK} (hG : ReadyD X pins σ H1 P bs g s5) (hR : ∀ H2, Tabbed P H1 H2 → Q (.bl (if all then bs.all (fun b => b) else bs.any (fun b => b))) H2) :
    wpAny (model X.prog X.w) X.A (call (.builtin (if all then "all" else "any")) [.ref g]) (EP X pins σ Q) X.xe s5 := by
  obtain ⟨fp, wr, G, F, St, W, hst, htr, hI⟩ := hG
  have eg : ∀ (i : Nat) (hi : i < bs.length), bs.getD i false = bs[i] := fun i hi => by simp [List.getD_eq_getElem?_getD, hi]
  cases all with
  | true =>
    refine call_all_walkS (W.self 0 _ _ _ hst ⟨g, fp, wr, G, _, F, St, _, rfl, W, hst, htr, fun s' hmv => ?_⟩)
    obtain ⟨H2, hT, J⟩ := hI s' hmv
    refine ⟨.bl _, H2, J, rfl, ?_⟩
    have e : (List.range bs.length).all (fun j => bs.getD j false) = bs.all (fun b => b) := by
      rw [Bool.eq_iff_iff, List.all_eq_true, List.all_eq_true]
      constructor
      · intro h b hb
        obtain ⟨i, hi, rfl⟩ := List.getElem_of_mem hb
        rw [← eg i hi]
        exact h i (List.mem_range.mpr hi)
      · intro h i hi
        rw [eg i (List.mem_range.mp hi)]
        exact h _ (List.getElem_mem _)
    rw [e]
    exact hR H2 hT
  | false =>
    refine call_any_walkS (W.self 0 _ _ _ hst ⟨g, fp, wr, G, _, F, St, _, rfl, W, hst, htr, fun s' hmv => ?_⟩)
    obtain ⟨H2, hT, J⟩ := hI s' hmv
    refine ⟨.bl _, H2, J, rfl, ?_⟩
    have e : (List.range bs.length).any (fun j => bs.getD j false) = bs.any (fun b => b) := by
      rw [Bool.eq_iff_iff, List.any_eq_true, List.any_eq_true]
      constructor
      · rintro ⟨i, hi, h⟩
        rw [eg i (List.mem_range.mp hi)] at h
        exact ⟨_, List.getElem_mem _, h⟩
      · rintro ⟨b, hb, h⟩
        obtain ⟨i, hi, rfl⟩ := List.getElem_of_mem hb
        exact ⟨i, List.mem_range.mpr hi, by rw [eg i hi]; exact h⟩
    rw [e]
    exact hR H2 hT
theorem se_gen {all : Bool} {k : Nat} {c P : Addr} {elt iter : Expr} {y x : Str} {p px pos gpos : Pos} {scope : Scope} {cn : List Str} {cs : List Nat} {gx : XV} {a : Arg}
    (g : Go X W k) (hg : Gl X y) (hm : X.mg y = none) (hb : bootBuiltins y = some (.builtin (if all then "all" else "any"))) (TB : TabB X.base X.mg c P) (hPT : P ∈ T) (hcode : X.env.code = .ref c) (S : GenS X.env scope x) (hi : SA X T W iter a)
    (hcap : capC X.N X.env.scope scope cn cs = true) (hel : ∀ cenv : Env, cenv.scope = scope → RE X.prog X.w X.mg cenv (X.A.units + 8) (x :: cn) elt gx) (hs : ∀ v, genFold iter X.env v = pure v)
    (hn : y ≠ "__name__" := by decide) (hd : (y == ("__debug__" : Str)) = false := by decide)
    (he : starEach [.GeneratorExp elt [⟨.Name x px, iter, [], 0⟩] scope gpos] X.env = (false, eval (.GeneratorExp elt [⟨.Name x px, iter, [], 0⟩] scope gpos) X.env) :: starEach [] X.env := by rfl) :
    SE X T W (.Call (.Name y p) [.GeneratorExp elt [⟨.Name x px, iter, [], 0⟩] scope gpos] [] pos) (eGen all a cs gx) := by
  refine ⟨fun pins s σ H Q I h => ?_⟩
  obtain ⟨G, F, L, e, rel, q⟩ := h
  refine wpAny_Call_Name_kw (ld_blt I hg hm hb ?_ hn hd)
  refine PyProof.Rows.callWith_builtin1 ?_ he (by rfl)
  rw [he]
  show wpAny _ _ (spliced ((false, eval (.GeneratorExp elt [⟨.Name x px, iter, [], 0⟩] scope gpos) X.env) :: backTo pos (starEach [] X.env))) _ _ s
  have h2 := args_ok (K := X.K) (W := W) (a :: cs.map .pk) (Q := fun vs H1 => ∃ (yl : Addr) (xs : List V) (ds cds : List PyData) (bs : List Bool) (r : List V), vs = .ref yl :: r ∧ (SqL X.K H1 yl xs ∨ SqT X.K H1 yl xs) ∧ DpAll X.K H1 xs ds ∧ TabG H1 P ∧
      (∀ (i : Nat) v d, r[i]? = some v → cds[i]? = some d → Dp X.K H1 v d) ∧ bs.length = ds.length ∧ (∀ i d, ds[i]? = some d → gx (d :: cds) = some (.bool (bs.getD i false))) ∧ ∀ H2, Tabbed P H1 H2 → Q (.bl (if all then bs.all (fun b => b) else bs.any (fun b => b))) H2) rel ?_
  · have em : (a :: cs.map .pk).map (tAg X.K T W) = tAg X.K T W a :: cs.map fun i => tVar i := by
      rw [List.map_cons, List.map_map]
      rfl
    rw [em] at h2
    refine Calls.spliced_cons (gen_dat (RR := fun bs H1 => ∀ H2, Tabbed P H1 H2 → Q (.bl (if all then bs.all (fun b => b) else bs.any (fun b => b))) H2) g.hr TB hcode S hi hcap hel hs I (tAg_mono a σ H _ _ (fun v H1 h3 => ?_) h2) fun bs H1 g5 s5 hR hG => ?_)
    · obtain ⟨vs, ⟨yl, xs, ds, cds, bs, r, e1, w1, w2, w3, w4, w5, w6, w7⟩, h5⟩ := tAs_vars h3
      cases e1
      refine ⟨yl, xs, ds, cds, bs, rfl, w1, w2, w3, fun i j d c1 c2 => ?_, w5, w6, w7⟩
      obtain ⟨v, z1, z2⟩ := h5 i j c1
      exact ⟨v, z2, w4 i v d z1 c2⟩
    · exact Calls.spliced_nil (call_genS hG hR)
  · unfold eGen at q
    cases h1 : evA (a :: cs.map .pk) e with
    | bad => rw [h1] at q; exact q
    | ex c d e' => rw [h1] at q; exact q
    | ok p =>
      rw [h1] at q
      simp only [bnd_ok] at q
      intro vs H' F' xF r' n
      cases h2 : gOut all gx p.1 with
      | none => rw [h2] at q; exact False.elim q
      | some b =>
        rw [h2] at q
        unfold gOut at h2
        split at h2
        · rename_i d cds hp
          split at h2
          · rename_i ds hds
            split at h2
            · rename_i hl
              rw [Bool.and_eq_true] at hl
              obtain ⟨bs, hbs, rfl⟩ := Option.map_eq_some_iff.mp h2
              rw [hp] at n
              cases vs with
              | nil => exact n.elim
              | cons v r =>
                obtain ⟨n1, n2⟩ := n
                have rp := n1.rp r'.fH
                have dp := rp.dp hl.1
                obtain ⟨hb1, hb2⟩ := testsG_get hbs
                have fin : ∀ H2, Tabbed P H' H2 → Q (.bl (if all then bs.all (fun b => b) else bs.any (fun b => b))) H2 := fun H2 hT => q _ H2 F' xF (r'.tabbed hPT hT) (.bl _)
                have caps : ∀ (i : Nat) v d, r[i]? = some v → cds[i]? = some d → Dp X.K H' v d := fun i v d c1 c2 => ((nowAll_get n2 c1 c2).rp r'.fH).dp (List.all_eq_true.mp hl.2 d (List.mem_of_getElem? c2))
                have tb := (r'.tb P hPT).1
                unfold itD at hds
                split at hds
                · cases hds
                  cases dp with
                  | lst s1 s2 => exact ⟨_, _, _, cds, bs, r, rfl, .inl s1, s2, tb, caps, hb1, hb2, fin⟩
                · cases hds
                  cases dp with
                  | tup s1 s2 => exact ⟨_, _, _, cds, bs, r, rfl, .inr s1, s2, tb, caps, hb1, hb2, fin⟩
                · cases hds
            · cases h2
          · cases h2
        · cases h2
end
end Py
namespace Py
open PySem PySem.Spec PyProof.Rows L2
open GxR (TabB GenS)
/-- the generator's scope beside the def's -/
def genC (outer scope : Scope) (x : Str) : Bool :=
  decide (scope.kind = .function) && decide (scope.isCoroutine = false) && scope.names.all (fun y => decide (y.2 ≠ .cell)) && decide (scope.names.lookup (".0" : Str) = some NameKind.local) && decide (scope.names.lookup x = some .local) &&
    scope.names.all (fun y => decide (y.2 ≠ .free) || decide (outer.names.lookup y.1 = some .cell) || decide (outer.names.lookup y.1 = some .free))
theorem genC_ok {X : Cx} {scope : Scope} {x : Str} (ok : X.Ok) (h : genC X.env.scope scope x = true) : GenS X.env scope x := by
  unfold genC at h
  simp only [Bool.and_eq_true, decide_eq_true_eq, List.all_eq_true, Bool.or_eq_true] at h
  obtain ⟨⟨⟨⟨⟨h1, h2⟩, h3⟩, h4⟩, h5⟩, h6⟩ := h
  refine ⟨h1, h2, h3, h4, h5, fun y hy e => ?_⟩
  rcases h6 y hy with (q | q) | q
  · exact absurd e q
  · exact ok.has y.1 (.inl q)
  · exact ok.has y.1 (.inr q)
theorem kd {cenv : Env} {scope : Scope} {y : Str} {k : NameKind} (h : cenv.scope = scope) (h2 : scope.names.lookup y = some k) : cenv.kindOf y = some k := by rw [Env.kindOf, h]; exact h2
theorem re_gi {prog : Program} {w : World} {mg : Str → Option Value} {cenv : Env} {U : Nat} {ns : List Str} {pos : Pos} {y : Str} {i : Int} (hk : cenv.kindOf y = some .globalImplicit) (hm : ∃ t, mg y = some (.int i t)) (hd : (y == ("__debug__" : Str)) = false := by decide) : RE prog w mg cenv U ns (.Name y pos) (xC (.int i)) :=
  let ⟨t, h⟩ := hm; re_glob hk h (fun _ => ⟨_, .int i t⟩) hd
theorem re_gs {prog : Program} {w : World} {mg : Str → Option Value} {cenv : Env} {U : Nat} {ns : List Str} {pos : Pos} {y : Str} {i : Str} (hk : cenv.kindOf y = some .globalImplicit) (hm : ∃ t, mg y = some (.str i t)) (hd : (y == ("__debug__" : Str)) = false := by decide) : RE prog w mg cenv U ns (.Name y pos) (xC (.str i)) :=
  let ⟨t, h⟩ := hm; re_glob hk h (fun _ => ⟨_, .str i t⟩) hd
theorem se_genG {X : Cx} {T : List Addr} {W : WX} {all : Bool} {k : Nat} {c P : Addr} {elt iter : Expr} {y x : Str} {p px pos gpos : Pos} {scope : Scope} {gx : XV} {a : Arg} (cn : List Str) (cs : List Nat)
    (g : Go X W k) (hg : Gl X y) (hm : X.mg y = none) (hb : bootBuiltins y = some (.builtin (if all then "all" else "any"))) (TB : TabB X.base X.mg c P) (hPT : P ∈ T) (hcode : X.env.code = .ref c) (S : genC X.env.scope scope x = true) (hi : SA X T W iter a)
    (hcap : capC X.N X.env.scope scope cn cs = true) (hel : ∀ cenv : Env, cenv.scope = scope → RE X.prog X.w X.mg cenv (X.A.units + 8) (x :: cn) elt gx) (hs : ∀ v, genFold iter X.env v = pure v := by intro _; rfl)
    (hn : y ≠ "__name__" := by decide) (hd : (y == ("__debug__" : Str)) = false := by decide)
    (he : starEach [.GeneratorExp elt [⟨.Name x px, iter, [], 0⟩] scope gpos] X.env = (false, eval (.GeneratorExp elt [⟨.Name x px, iter, [], 0⟩] scope gpos) X.env) :: starEach [] X.env := by rfl) :
    SE X T W (.Call (.Name y p) [.GeneratorExp elt [⟨.Name x px, iter, [], 0⟩] scope gpos] [] pos) (eGen all a cs gx) :=
  ⟨fun pins s σ H Q I h => (se_gen g hg hm hb TB hPT hcode (genC_ok I.ok S) hi hcap hel hs hn hd he).run pins s σ H Q I h⟩
end Py
end
section
set_option Elab.async false
set_option linter.all false
set_option maxRecDepth 100000
set_option maxHeartbeats 4000000
/-! The head: what it tells of the defs, the classes, the __init__s, the tables. -/
namespace Py
open PySem PySem.Spec PyProof.Rows L2
open He (ga ma fAd Fa DefD FnW fnW ba)

/-! ### an own exception class with its own __init__ -/
structure IniD where
  x : Str
  fld : Str
  name : Str
  qual : Str
  params : Arguments
  body : List Stmt
  scope : Scope
abbrev FnIw : Type := Option (Str × Str × Arguments × FuncBody × Scope × Addr × List Str × Addr)
def iniW (K : Fr) (x : Str) : FnIw := match K.lookup (ma K (ga K x) "__init__") with
  | some ⟨_, _, .func fd, _⟩ => some (fd.name, fd.qualname, fd.params, fd.body, fd.scope, fd.globals, fd.closure.map (·.1), fd.builtins)
  | _ => none
def IniD.val (d : IniD) : FnIw := some (d.name, d.qual, d.params, .stmts d.body, d.scope, mainGlobals, [("__class__" : Str)], builtinsNs)
def oexB (K : Fr) (C : Addr) : Bool := (match K.lookup C with
  | some ⟨.type "type", _, .cls cd, sl⟩ => (match cd.mro, sl.toList with
    | .ref C' :: bm, [_, _, _, _, some (.builtin n), _] => C' == C && n == "ValueError.__new__" && !cd.hasDel && cd.hasDict && PySem.HandSPX.refsVE bm
    | _, _ => false)
  | _ => false) && (decide (PySem.W.findIn K (.ref C) "__setattr__" = some (some (.builtin "object.__setattr__"))) && (decide (PySem.W.subIn K (.ref C) (.type "BaseException") = some true) &&
    (decide (PySem.W.typeIn K (.ref C) = some (.type "type")) && PySem.W.keepIn K (.ref C))))
theorem oexB_ok {K : Fr} {C : Addr} (h : oexB K C = true) : OexC K C := by
  obtain ⟨q, h⟩ := ba h
  obtain ⟨h1, h⟩ := ba h
  obtain ⟨h2, h⟩ := ba h
  obtain ⟨h3, h4⟩ := ba h
  refine ⟨?_, of_decide_eq_true h1, of_decide_eq_true h2, of_decide_eq_true h3, h4⟩
  split at q
  · rename_i dd cd sl ho
    split at q
    · rename_i C' bm k0 k1 k2 k3 n k5 hm hs
      simp only [Bool.and_eq_true, beq_iff_eq, Bool.not_eq_true'] at q
      obtain ⟨⟨⟨⟨rfl, rfl⟩, hdel⟩, hdc⟩, ht⟩ := q
      obtain ⟨nm, bs, mro, ns, qn, hd, sn, sub, ab, col, del⟩ := cd
      dsimp only at hm hdel hdc
      subst hm hdel hdc
      have hsl : sl = #[k0, k1, k2, k3, some (.builtin "ValueError.__new__"), k5] := by
        obtain ⟨l⟩ := sl
        simp only at hs
        rw [hs]
      subst hsl
      exact ⟨nm, qn, ns, bs, bm, sn, sub, ab, col, dd, k0, k1, k2, k3, k5, ho, ht⟩
    · cases q
  · cases q
def iniB (K : Fr) (file x fld : Str) : Bool := (match K.lookup (ma K (ga K x) "__init__") with
  | some ⟨_, _, .func fd, _⟩ => decide (fd.defaults = .none) && (PySem.W.codeIn K fd.code fd.qualname && ((match fd.code with
      | .ref cda => (match K.lookup cda with
        | some ⟨_, _, .fields vs, _⟩ => (match (vs[2]? : Option Value) with
          | some (Value.str f _) => file == f
          | _ => false)
        | _ => false)
      | _ => false) && (match fd.closure with
      | [(_, cc)] => (match K.lookup cc with
        | some ⟨_, _, .cell (some v), _⟩ => decide (v = .ref (ga K x))
        | _ => false)
      | _ => false)))
  | _ => false) && ((match PySem.W.clsIn K (ga K x) with
    | some cd => decide (PySem.W.alongIn K "__init__" ((cd.mro.dropWhile (· != .ref (ga K x))).drop 1) = some (some (.builtin "ValueError.__init__")))
    | none => false) && (oexB K (ga K x) && (decide (PySem.W.findIn K (.ref (ga K x)) "__init__" = some (some (.ref (ma K (ga K x) "__init__")))) && (decide (PySem.W.typeIn K (.ref (ma K (ga K x) "__init__")) = some (.type "function")) &&
      (decide (PySem.W.nsIn K cStatics "thirdparty.any" = some none) && (decide (PySem.W.mroIn K (ga K x) (.ref (ga K x)) = some true) && (decide (PySem.W.subIn K (.ref (ga K x)) (.type "ValueError") = some true) &&
        (decide (PySem.W.findIn K (.ref (ga K x)) fld = some none) && decide (PySem.W.nsIn K mainGlobals x = some (some (.ref (ga K x))))))))))))
theorem ini_ok {K : Fr} {prog : Program} {d : IniD} {sn pn : Str} {ea : Expr} {p0 p1 pa pc pe ps pf pp pz : Pos} {ar : PySem.Arg} (e : iniW K d.x = d.val) (c : iniB K prog.main.file d.x d.fld = true)
    (hb : d.body = [.Expr (.Call (.Attribute (.Call (.Name "super" p0) [] [] p1) "__init__" pa) [ea] [] pc) pe, .Assign [.Attribute (.Name sn ps) d.fld pf] (.Name pn pp) pz])
    (h1 : (d.params.posonlyargs ++ d.params.args).head? = some ar) (h2 : ar.arg = sn) (h3 : pn ≠ sn) (h4 : d.scope.names.lookup ("super" : Str) = some .globalImplicit) (h5 : d.scope.names.lookup ("__class__" : Str) = some .free) (h6 : d.scope.names.lookup sn = some .local) (h7 : d.scope.names.lookup pn = some .local)
    (h8 : d.scope.kind = .function) (h9 : ∀ x ∈ d.scope.names, x.2 ≠ .cell) (h10 : d.scope.isCoroutine = false) (h11 : d.scope.isGenerator = false) (h12 : (sn == ("__debug__" : Str)) = false) (h13 : (pn == ("__debug__" : Str)) = false)
    (h14 : ∀ (kV doc pm : Value) (an : Option Addr) (cdv ct : Value) (cc : Addr) (a b : Value), bindArgs (PySem.W.ksFn d.name d.qual d.params d.body d.scope .none kV doc pm an cdv ct cc) ⟨[a, b], []⟩ = pure [(sn, a), (pn, b)])
    (h15 : ∀ env, swapsWith (.Name pn pp) (some (.Attribute (.Name sn ps) d.fld pf)) pz.line env = pure false) (h16 : ∀ env, swapsWith (.Call (.Attribute (.Call (.Name "super" p0) [] [] p1) "__init__" pa) [ea] [] pc) none pe.line env = pure false)
    (h17 : ∀ env, starEach [ea] env = [(false, eval ea env)])
    (h18 : ∀ env : Env, env.kindOf "super" = some .globalImplicit → eval (.Call (.Attribute (.Call (.Name "super" p0) [] [] p1) "__init__" pa) [ea] [] pc) env = (do
      let ov ← attributeBase (.Call (.Name "super" p0) [] [] p1) "__init__" env (eval (.Call (.Name "super" p0) [] [] p1) env)
      standAt pa.atName
      let (f, first) ← holding [ov] (getMethod ov "__init__" (pure false))
      callWith pc f first (backTo pc (starEach [ea] env)) [])) : IniK K prog (ga K d.x) (ma K (ga K d.x) "__init__") d.fld sn pn ea := by
  obtain ⟨q, c'⟩ := ba c
  obtain ⟨q2, _⟩ := ba c'
  clear c c'
  unfold iniW at e
  split at q
  · rename_i oc od fd osl lk
    rw [lk] at e
    obtain ⟨n1, n2, n3, n4, n5, n6, n7, n8, n9, n10, n11, n12, n13, n14, n15⟩ := fd
    have e2 : (some (n1, n2, n3, n4, n5, n6, n7.map (·.1), n15) : FnIw) = some (d.name, d.qual, d.params, FuncBody.stmts d.body, d.scope, mainGlobals, [("__class__" : Str)], builtinsNs) := e
    simp only [Option.some.injEq, Prod.mk.injEq] at e2
    obtain ⟨k1, k2, k3, k4, k5, k6, k7, k8⟩ := e2
    subst k1 k2 k3 k4 k5 k6 k8
    obtain ⟨q3, q7⟩ := ba q
    obtain ⟨q4, q8⟩ := ba q7
    obtain ⟨q5, q6⟩ := ba q8
    have q9 : n8 = .none := of_decide_eq_true q3
    subst q9
    dsimp only at q5 q6 q4
    clear q q3 q7 q8 e
    split at q5
    · rename_i cda
      split at q5
      · rename_i ccl cdd vs ccs lkc
        split at q5
        · rename_i f tf hf
          split at q6
          · rename_i nmc cc
            cases k7
            split at q6
            · rename_i cl cld v csl lkcc
              have q6 := of_decide_eq_true q6
              subst q6
              split at q2
              · rename_i cd hcd
                refine ⟨oc, .ref cda, n14, .none, n9, n10, n11, cl, ccl, od, n12, cld, cdd, osl, csl, ccs, d.name, d.qual, d.params, d.scope, cc, cda, cd, ar, vs, f, tf, p0, p1, pa, pc, pe, ps, pf, pp, pz, ?_, q4, rfl, lkc, hf, q5, lkcc, hcd, of_decide_eq_true q2, h1, h2, h3, h4, h5, h6, h7, h8, h9, h10, h11, h12, h13, ?_, h15, h16, h17, h18⟩
                · rw [← hb]
                  exact lk
                · intro s a b
                  rw [← hb]
                  exact .of_eq (h14 _ _ _ _ _ _ _ _ _)
              · cases q2
            · cases q6
          · cases q6
        · cases q5
      · cases q5
    · cases q5
  · cases q
theorem sup_ok {K : Fr} {prog : Program} {h : Heap} {mg : Str → Option Value} {d : IniD} {sn pn : Str} {ea : Expr} (X : K.In h) (G : h.Ns mainGlobals mg) (c : iniB K prog.main.file d.x d.fld = true) (J : IniK K prog (ga K d.x) (ma K (ga K d.x) "__init__") d.fld sn pn ea)
    (htop : (prog.main.scope.names.lookup ("super" : Str)).isSome = false) (hms : mg "super" = none) : Sup K prog mg d.x (ga K d.x) (ma K (ga K d.x) "__init__") d.fld sn pn ea := by
  obtain ⟨_, c⟩ := ba c
  obtain ⟨_, c⟩ := ba c
  obtain ⟨c1, c⟩ := ba c
  obtain ⟨c2, c⟩ := ba c
  obtain ⟨c3, c⟩ := ba c
  obtain ⟨c4, c⟩ := ba c
  obtain ⟨c5, c⟩ := ba c
  obtain ⟨c6, c⟩ := ba c
  obtain ⟨c7, c8⟩ := ba c
  exact ⟨oexB_ok c1, J, of_decide_eq_true c2, of_decide_eq_true c3, of_decide_eq_true c4, of_decide_eq_true c5, of_decide_eq_true c6, of_decide_eq_true c7, htop, hms, PySem.W.mg_of X G (of_decide_eq_true c8)⟩

/-! ### a plain exception class; one that is caught -/
def excPB (K : Fr) (x : Str) : Bool := PySem.W.excIn K (ga K x) He.veBase "ValueError.__new__" && (decide (PySem.W.nsIn K mainGlobals x = some (some (.ref (ga K x)))) && (PySem.W.keepIn K (.ref (ga K x)) && (decide (PySem.W.subIn K (.ref (ga K x)) (.type "BaseException") = some true) && decide (PySem.W.typeIn K (.ref (ga K x)) = some (.type "type")))))
theorem excP_ok {K : Fr} {h : Heap} {mg : Str → Option Value} {c : String} (X : K.In h) (G : h.Ns mainGlobals mg) (e : excPB K (Str.ofString c) = true) : ExcP K mg c := by
  obtain ⟨c1, e⟩ := ba e
  obtain ⟨c2, e⟩ := ba e
  obtain ⟨c3, e⟩ := ba e
  obtain ⟨c4, c5⟩ := ba e
  exact ⟨c1, PySem.W.mg_of X G (of_decide_eq_true c2), c3, of_decide_eq_true c4, of_decide_eq_true c5⟩
def ecB (K : Fr) (D : Addr) : Bool := decide (PySem.W.findIn K (.ref D) "__getattribute__" = some (some (.builtin "BaseException.__getattribute__"))) && (decide (PySem.W.findIn K (.ref D) "__getattr__" = some none) && (decide (PySem.W.subIn K (.ref D) (.type "BaseException") = some true) &&
  (PySem.W.hasDictIn K D && (decide (PySem.W.findIn K (.ref D) "__class__" = some (some (.builtin "object.__class__"))) && (decide (PySem.W.specialIn K (.builtin "object.__class__") "__get__" = some (some (.builtin "getset_descriptor.__get__"))) && (decide (PySem.W.takesIn K (.builtin "object.__class__") = some true) && decide (PySem.W.mroIn K D (.type "object") = some true)))))))
theorem ec_ok {K : Fr} {D : Addr} (e : ecB K D = true) : EcK K D := by
  obtain ⟨c1, e⟩ := ba e
  obtain ⟨c2, e⟩ := ba e
  obtain ⟨c3, e⟩ := ba e
  obtain ⟨c4, e⟩ := ba e
  obtain ⟨c5, e⟩ := ba e
  obtain ⟨c6, e⟩ := ba e
  obtain ⟨c7, c8⟩ := ba e
  exact ⟨of_decide_eq_true c1, of_decide_eq_true c2, of_decide_eq_true c3, c4, of_decide_eq_true c5, of_decide_eq_true c6, of_decide_eq_true c7, of_decide_eq_true c8⟩
def tryB (K : Fr) (c : String) (known : List String) (y : Str) : Bool := decide (PySem.W.nsIn K mainGlobals (Str.ofString c) = some (some (.ref (ga K (Str.ofString c))))) && ((known.all fun c2 => decide (PySem.W.exmOne K (.ref (ga K (Str.ofString c2))) (.ref (ga K (Str.ofString c))) = some (c2 == c))) &&
  (ecB K (ga K (Str.ofString c)) && (decide (PySem.W.nsIn K mainGlobals y = some (some (.ref (ga K y)))) && (decide (PySem.W.kitOne K (.ref (ga K (Str.ofString c))) (.ref (ga K y)) = some true) && decide (PySem.W.findIn K (.ref (ga K (Str.ofString c))) (fldN c) = some none)))))
theorem try_ok {K : Fr} {h : Heap} {mg : Str → Option Value} {c : String} {known : List String} {y : Str} (X : K.In h) (G : h.Ns mainGlobals mg) (e : tryB K c known y = true) : TryK K mg c known y := by
  obtain ⟨c1, e⟩ := ba e
  obtain ⟨c2, e⟩ := ba e
  obtain ⟨c3, e⟩ := ba e
  obtain ⟨c4, e⟩ := ba e
  obtain ⟨c5, c6⟩ := ba e
  have E := ec_ok c3
  exact ⟨PySem.W.mg_of X G (of_decide_eq_true c1), fun c2' hc => of_decide_eq_true (List.all_eq_true.mp c2 c2' hc), ⟨E, PySem.W.mg_of X G (of_decide_eq_true c4), of_decide_eq_true c5⟩, ⟨E.ga, E.gt, E.be, E.di⟩, of_decide_eq_true c6⟩
end Py
end
section
set_option Elab.async false
set_option linter.all false
set_option maxRecDepth 100000
set_option maxHeartbeats 4000000
/-! The Hook; from the head's facts to the defs; the end. -/
namespace Py
open PySem PySem.Spec PyProof.Rows L2
open He (ga ma fAd Fa DefD FnW fnW ba AlD obsD valD SaysD growD frT frT_in frT_none emptyTab emptyTab_eq cT codeOf codeOf_eq codeIn_ref tabsB Defn)

def asY (g : Addr → Option Obj) : Nat → List Addr
  | 0 => [mainGlobals, cStatics]
  | n + 1 => growD g (asY g n)
abbrev AlY : Type := (AlD × List FnIw) × Bool
def obK (fa : List Fa) (fn : List DefD) (inis : List IniD) (tf : List Defn) (ex : Fr → Bool) (g : Addr → Option Obj) (K : Fr) : AlY := ((obsD fa fn K, inis.map fun d => iniW K d.x), ex K && tabsB g tf K)
def obsY (n : Nat) (fa : List Fa) (fn : List DefD) (inis : List IniD) (tf : List Defn) (ex : Fr → Bool) (g : Addr → Option Obj) : AlY := obK fa fn inis tf ex g (frT g (asY g n))
def valY (fn : List DefD) (inis : List IniD) : AlY := ((valD fn, inis.map IniD.val), true)
structure SaysY (fa : List Fa) (fn : List DefD) (inis : List IniD) (tf : List Defn) (ex : Fr → Bool) (h : Heap) (K : Fr) : Prop where
  d : SaysD fa fn K
  i : (inis.map fun d => iniW K d.x) = inis.map IniD.val
  more : ex K = true
  hd : ∀ p ∈ tf, PySem.W.codeHdIn K (cT K p).1 (cT K p).2 = true
  out : ∀ p ∈ tf, K.lookup (cT K p).2 = none
  empty : ∀ p ∈ tf, h.get? (cT K p).2 = some { cls := .none, data := .fields #[] }
theorem saysY_of {n : Nat} {fa : List Fa} {fn : List DefD} {inis : List IniD} {tf : List Defn} {ex : Fr → Bool} {h : Heap} (e : obsY n fa fn inis tf ex h.get? = valY fn inis) : SaysY fa fn inis tf ex h (frT h.get? (asY h.get? n)) := by
  have e1 : obsD fa fn (frT h.get? (asY h.get? n)) = valD fn := congrArg (fun z : AlY => z.1.1) e
  have e3 : (inis.map fun d => iniW (frT h.get? (asY h.get? n)) d.x) = inis.map IniD.val := congrArg (fun z : AlY => z.1.2) e
  have e2 : (ex (frT h.get? (asY h.get? n)) && tabsB h.get? tf (frT h.get? (asY h.get? n))) = true := congrArg (fun z : AlY => z.2) e
  obtain ⟨h1, h2⟩ := ba e2
  have key : ∀ p ∈ tf, PySem.W.codeHdIn (frT h.get? (asY h.get? n)) (cT (frT h.get? (asY h.get? n)) p).1 (cT (frT h.get? (asY h.get? n)) p).2 = true ∧ ∃ o, h.get? (cT (frT h.get? (asY h.get? n)) p).2 = some o ∧ emptyTab o = true := fun p hp => by
    obtain ⟨h3, h4⟩ := ba (List.all_eq_true.mp h2 p hp)
    refine ⟨h3, ?_⟩
    cases q : h.get? (cT (frT h.get? (asY h.get? n)) p).2 with
    | none => rw [q] at h4; cases h4
    | some o => rw [q] at h4; exact ⟨o, rfl, h4⟩
  exact ⟨e1, e3, h1, fun p hp => (key p hp).1, fun p hp => by
    obtain ⟨_, o, q, z⟩ := key p hp
    exact frT_none q z, fun p hp => by
    obtain ⟨_, o, q, z⟩ := key p hp
    rw [q, emptyTab_eq z]⟩
def hookY (n : Nat) (fa : List Fa) (fn : List DefD) (inis : List IniD) (tf : List Defn) (ex : Fr → Bool) : PySem.W.Hook where
  α := AlY
  obs := fun s => obsY n fa fn inis tf ex s.heap.get?
  val := fun _ => valY fn inis
  says := fun _ h => ∃ K : Fr, K.In h ∧ SaysY fa fn inis tf ex h K
  of := fun _ _ e => ⟨_, frT_in, saysY_of e⟩
  keeps := fun _ _ _ ⟨K, hK, c⟩ k => ⟨K, PySem.W.Frag.In.keeps hK k, ⟨c.d, c.i, c.more, c.hd, c.out, fun p hp => k _ _ (c.empty p hp)⟩⟩
theorem obsY_eq {n : Nat} {fa : List Fa} {fn : List DefD} {inis : List IniD} {tf : List Defn} {ex : Fr → Bool} {g : Addr → Option Obj} {s : Shared} (h : ∀ a, g a = s.heap.get? a) : obsY n fa fn inis tf ex g = (hookY n fa fn inis tf ex).obs s := by
  have e : g = s.heap.get? := funext h
  rw [e] <;> rfl
theorem SaysY.ini {fa : List Fa} {fn : List DefD} {inis : List IniD} {tf : List Defn} {ex : Fr → Bool} {h : Heap} {K : Fr} (c : SaysY fa fn inis tf ex h K) (j : Nat) {d : IniD} (hd : inis[j]? = some d := by rfl) : iniW K d.x = d.val := by
  have e := congrArg (fun l => l[j]?) c.i
  simp only [List.getElem?_map, hd] at e
  exact Option.some.inj e
section
variable {P : Program} {w : World} {K : Fr} {mg : Str → Option Value} {base : Heap} {x qual : Str} {params : Arguments} {body : List Stmt} {scope : Scope} {f : Addr} {fd : FuncData} {N ps : List Str} {k : Nat} {T : List Addr} {at_ : Defn} {sp : Sp}
/-- a def that holds a generator expression: its code object is told -/
theorem fn_okG (FD : FunD K x qual params body scope [] [] (fAd K at_) fd) (S : FnScope N ps scope) {b : List SV} {n m : Nat} (hn : n = N.length) (hm : m = ps.length)
    (D : ∀ (A : Around) (outer : List Env) (s : Shared) (H : Hp) (E : XK), Room k (A.deeper (envOfC qual scope s.heap.objs.size (fAd K at_) (.ref (cT K at_).1))) → SSs (DCx P w K mg base N qual scope (fAd K at_) (.ref (cT K at_).1) A outer s H E) T (WD E) body b) :
    FnOk P w K mg base (L2.CX P w) (k + 1) (fAd K at_) fd ps (SpV K T (fn n m (sSeq b))) := by
  obtain ⟨oc, od, dV, kV, doc, pm, an, cdv, ct, osl, rfl, lk, hcd, _, _⟩ := FD.ex
  obtain ⟨c, rfl⟩ := codeIn_ref hcd
  have ec : codeOf K at_ = c := codeOf_eq lk rfl
  have ec2 : (cT K at_).1 = c := ec
  rw [ec2] at D
  exact fn_of lk hcd S (fun _ _ _ _ h => (spV_len h).trans hm) fun A outer s H vs Q E hr h => ⟨_, D A outer s H E hr, spV_read hn h⟩
theorem calP (FD : FunD K x qual params body scope [] [] (ga K x) fd) (ok : FnOk P w K mg base (L2.CX P w) k (ga K x) fd ps sp) (hm : mg x = some (.ref (ga K x)))
    (hb : ∀ (kV doc pm : Value) (an : Option Addr) (cdv ct : Value) (us : List Value), us.length = ps.length → bindArgs (PySem.W.fnOf x qual params body scope .none kV doc pm an cdv ct) ⟨us, []⟩ = pure (ps.zip us)) : CalP P w K mg base k x ps.length sp :=
  ⟨_, fd, ps, ok, hm, FD.kp, FD.bindsN hb, rfl⟩
end
theorem rp_ints {K : Fr} {F : Hp} : ∀ (ns : List Int), RpAll K F (ns.map V.int) (ns.map PyData.int)
  | [] => .nil
  | n :: ns => .cons (.int n) (rp_ints ns)
/-- the law's promise kept, from what its meaning answers -/
theorem law_sp {K : Fr} {T : List Addr} {m : FnV} {ns : List Int} {a : Addr} {H : Hp} (hT : ∀ P ∈ T, H P = some (.tbl #[])) (hS : SqL K H a (ns.map V.int)) (hm : ∃ o b, m [.list (ns.map .int)] = .ret (.bool true) o b) : SpV K T m [.ref a] H (fun v _ => v = .bl true) fun _ _ _ => False := by
  classical
  obtain ⟨o, b, hm⟩ := hm
  refine ⟨fun _ => none, fun c => if c ∈ T then none else H c, [.list (ns.map .int)], ⟨fun _ _ z => (by cases z), fun c u z => ?_, fun _ _ _ => rfl, fun P hP => ⟨⟨#[], hT P hP, ?_⟩, if_pos hP, rfl⟩⟩, .cons (.lst ?_ (rp_ints ns)) .nil, ?_⟩
  · by_cases hc : c ∈ T
    · have z : (if c ∈ T then none else H c) = some u := z
      rw [if_pos hc] at z; cases z
    · have z : (if c ∈ T then none else H c) = some u := z
      rw [if_neg hc] at z; exact z
  · simp [TriplesOk]
  · have st : ∀ {u}, H a = some u → (∀ ps, u ≠ .tbl ps) → (if a ∈ T then none else H a) = some u := fun {u} e hu => by
      by_cases hc : a ∈ T
      · rw [hT a hc] at e; cases e; exact absurd rfl (hu #[])
      · rw [if_neg hc]; exact e
    rcases hS with (h | ⟨ob, h⟩) | h
    · exact .inl (.inl (st h fun _ z => by cases z))
    · exact .inl (.inr ⟨ob, st h fun _ z => by cases z⟩)
    · exact .inr h
  · rw [hm]
    intro v H' F' _ _ vf
    cases o with
    | false => cases vf; rfl
    | true =>
      obtain ⟨p, _, ob, _⟩ := vf
      cases ob
end Py
end
section
set_option linter.all false
set_option Elab.async false
namespace Py
/-! Plain sums and places, for rows that can be juggled. -/
/-- sum of f below n -/
def S : Nat → (Nat → Int) → Int
  | 0, _ => 0
  | n + 1, f => S n f + f n
theorem S_congr {n : Nat} {f g : Nat → Int} (h : ∀ i, i < n → f i = g i) : S n f = S n g := by
  induction n with
  | zero => rfl
  | succ n ih => rw [S, S, ih (fun i hi => h i (by omega)), h n (by omega)]
theorem S_add {n : Nat} {f g : Nat → Int} : S n (fun i => f i + g i) = S n f + S n g := by
  induction n with
  | zero => rfl
  | succ n ih => rw [S, S, S, ih]; omega
theorem S_zero {n : Nat} : S n (fun _ => 0) = 0 := by
  induction n with
  | zero => rfl
  | succ n ih => rw [S, ih]; rfl
theorem S_swap {n m : Nat} {f : Nat → Nat → Int} : S n (fun i => S m (f i)) = S m (fun j => S n (fun i => f i j)) := by
  induction n with
  | zero => exact S_zero.symm
  | succ n ih => rw [S, ih, ← S_add]; rfl
theorem S_front {n : Nat} {f : Nat → Int} : S (n + 1) f = f 0 + S n (fun i => f (i + 1)) := by
  induction n with
  | zero => rw [S, S, S]; omega
  | succ n ih => rw [S, ih, S]; omega
theorem S_const {n : Nat} {c : Int} : S n (fun _ => c) = n * c := by
  induction n with
  | zero => rw [S]; simp
  | succ n ih => rw [S, ih, Int.natCast_add, Int.add_mul]; simp
def b1 (p : Prop) [Decidable p] : Int := if p then 1 else 0
theorem S_filter {n : Nat} (p : Nat → Bool) : S n (fun j => if p j then 1 else 0) = (((List.range n).filter p).length : Int) := by
  induction n with
  | zero => rfl
  | succ n ih =>
    rw [S, ih, List.range_succ, List.filter_append, List.length_append]
    cases h : p n <;> simp [h]
theorem S_sum {R : List Int} : S R.length (fun s => R.getD s 0) = R.sum := by
  induction R with
  | nil => rfl
  | cons a R ih => rw [List.length_cons, S_front, List.sum_cons, ← ih]; rfl
theorem filter_one {m j0 : Nat} {p : Nat → Bool} (h0 : j0 < m) (h : ∀ j, j < m → (p j = true ↔ j = j0)) : (List.range m).filter p = [j0] := by
  induction m with
  | zero => omega
  | succ m ih =>
    rw [List.range_succ, List.filter_append]
    by_cases e : j0 = m
    · have e2 : (List.range m).filter p = [] := by
        rw [List.filter_eq_nil_iff]
        intro a ha hp
        have ha := List.mem_range.mp ha
        have := (h a (by omega)).mp hp
        omega
      have e3 : p m = true := (h m (by omega)).mpr e.symm
      rw [e2, e]; simp [e3]
    · have e3 : p m = false := by
        cases hp : p m with
        | false => rfl
        | true => exact absurd ((h m (by omega)).mp hp).symm e
      rw [ih (by omega) (fun j hj => h j (by omega))]
      simp [e3]
/-- no more than n numbers below n -/
theorem nodup_le {n : Nat} {L : List Int} (hn : L.Nodup) (h : ∀ x, x ∈ L → 0 ≤ x ∧ x < (n : Int)) : L.length ≤ n := by
  induction n generalizing L with
  | zero =>
    cases L with
    | nil => simp
    | cons a L => have := h a List.mem_cons_self; omega
  | succ n ih =>
    by_cases hm : (n : Int) ∈ L
    · have h2 := ih (L := L.erase n) (hn.erase _) (fun x hx => by
        have := h x (List.mem_of_mem_erase hx)
        have : x ≠ n := fun e => by
          rw [e] at hx
          exact (List.Nodup.mem_erase_iff hn).mp hx |>.1 rfl
        omega)
      have := List.length_erase_of_mem hm
      omega
    · have h2 := ih hn (fun x hx => by
        have := h x hx
        have : x ≠ n := fun e => hm (e ▸ hx)
        omega)
      omega
theorem onto {n : Nat} {L : List Int} (hn : L.Nodup) (h : ∀ x, x ∈ L → 0 ≤ x ∧ x < (n : Int)) (hl : L.length = n) {t : Int} (h0 : 0 ≤ t) (ht : t < n) : t ∈ L := by
  by_cases hm : t ∈ L
  · exact hm
  · have := nodup_le (n := n) (L := t :: L) (List.nodup_cons.mpr ⟨hm, hn⟩) (fun x hx => by
      rcases List.mem_cons.mp hx with rfl | hx
      · exact ⟨h0, ht⟩
      · exact h x hx)
    rw [List.length_cons] at this
    omega
/-- a number below n that is not in a list of less than n -/
theorem free_one {n : Nat} {L : List Int} (hl : L.length < n) : ∃ t : Int, 0 ≤ t ∧ t < n ∧ t ∉ L := by
  induction n generalizing L with
  | zero => omega
  | succ n ih =>
    by_cases hm : (n : Int) ∈ L
    · have h2 := List.length_erase_of_mem hm
      by_cases hl2 : (L.filter (· ≠ (n : Int))).length < n
      · obtain ⟨t, h0, h1, h3⟩ := ih hl2
        exact ⟨t, h0, by omega, fun z => h3 (List.mem_filter.mpr ⟨z, by simp; omega⟩)⟩
      · exfalso
        have : (L.filter (· ≠ (n : Int))).length < L.length := by
          apply Nat.lt_of_le_of_ne (List.length_filter_le _ _)
          intro e
          have := List.length_filter_eq_length_iff.mp e _ hm
          simp at this
        omega
    · exact ⟨n, by omega, by omega, hm⟩
/-! ### rows -/
/-- the height at any beat -/
def rowV (R : List Int) (x : Int) : Int := R.getD (x % R.length).toNat 0
def landV' (R : List Int) : List Int := R.mapIdx fun k h => ((k : Int) + h) % R.length
/-- can be juggled -/
structure Jug (R : List Int) : Prop where
  pos : R ≠ []
  hi : ∀ h, h ∈ R → 0 ≤ h ∧ h ≤ 35
  nd : (landV' R).Nodup
theorem landV'_len (R : List Int) : (landV' R).length = R.length := by simp [landV']
theorem landV'_get {R : List Int} {k : Nat} (hk : k < R.length) : (landV' R)[k]? = some (((k : Int) + R.getD k 0) % R.length) := by
  unfold landV'
  rw [List.getElem?_mapIdx, List.getD_eq_getElem?_getD, List.getElem?_eq_getElem hk]
  rfl
variable {R : List Int}
theorem Jug.len (J : Jug R) : (0 : Int) < R.length := by
  have : 0 < R.length := List.length_pos_iff.mpr J.pos
  omega
theorem Jug.row (J : Jug R) (x : Int) : 0 ≤ rowV R x ∧ rowV R x ≤ 35 := by
  have h0 := Int.emod_nonneg x (Int.ne_of_gt J.len)
  have h1 := Int.emod_lt_of_pos x J.len
  unfold rowV
  have hk : (x % R.length).toNat < R.length := by omega
  rw [List.getD_eq_getElem?_getD, List.getElem?_eq_getElem hk]
  exact J.hi _ (List.getElem_mem hk)
theorem Jug.land_mem (J : Jug R) : ∀ x, x ∈ landV' R → 0 ≤ x ∧ x < (R.length : Int) := by
  intro x hx
  obtain ⟨k, hk⟩ := List.getElem?_of_mem hx
  have hk2 : k < R.length := by have := (List.getElem?_eq_some_iff.mp hk).1; rw [landV'_len] at this; exact this
  rw [landV'_get hk2] at hk
  cases hk
  exact ⟨Int.emod_nonneg _ (Int.ne_of_gt J.len), Int.emod_lt_of_pos _ J.len⟩
theorem nd_iff {L : List Int} : L.Nodup ↔ ∀ a b, a < b → b < L.length → L[a]? ≠ L[b]? := by
  show List.Pairwise _ _ ↔ _
  rw [List.pairwise_iff_getElem]
  constructor
  · intro h a b hab hb e
    rw [List.getElem?_eq_getElem hb, List.getElem?_eq_getElem (by omega : a < L.length)] at e
    exact h a b (by omega) hb hab (Option.some.inj e)
  · intro h a b ha hb hab e
    exact h a b hab hb (by rw [List.getElem?_eq_getElem hb, List.getElem?_eq_getElem ha, e])
/-- where the ball of the beat b comes from -/
theorem Jug.src (J : Jug R) (b : Int) : ∃ s : Nat, s < R.length ∧ ((s : Int) + R.getD s 0) % R.length = b % R.length := by
  have h0 := Int.emod_nonneg b (Int.ne_of_gt J.len)
  have h1 := Int.emod_lt_of_pos b J.len
  have := onto J.nd J.land_mem (landV'_len R) h0 h1
  obtain ⟨k, hk⟩ := List.getElem?_of_mem this
  have hk2 : k < R.length := by have := (List.getElem?_eq_some_iff.mp hk).1; rw [landV'_len] at this; exact this
  rw [landV'_get hk2] at hk
  exact ⟨k, hk2, Option.some.inj hk⟩
theorem Jug.inj (J : Jug R) {s t : Nat} (hs : s < R.length) (ht : t < R.length) (h : ((s : Int) + R.getD s 0) % R.length = ((t : Int) + R.getD t 0) % R.length) : s = t := by
  have hn := J.nd
  rw [nd_iff] at hn
  rcases Nat.lt_trichotomy s t with z | z | z
  · exact absurd (by rw [landV'_get hs, landV'_get ht, h]) (hn s t z (by rw [landV'_len]; exact ht))
  · exact z
  · exact absurd (by rw [landV'_get hs, landV'_get ht, h]) (hn t s z (by rw [landV'_len]; exact hs))
theorem mod_back {n b j s : Int} (h : (s + j) % n = b % n) (h0 : 0 ≤ s) (h1 : s < n) : (b - j) % n = s := by
  have e : (b - j) % n = (b % n - j) % n := by rw [Int.emod_sub_emod]
  rw [e, ← h, Int.emod_sub_emod, show s + j - j = s by omega]
  exact Int.emod_eq_of_lt h0 h1
theorem mod_fwd {n b j : Int} : ((b - j) % n + j) % n = b % n := by
  rw [Int.emod_add_emod]
  rw [show b - j + j = b by omega]
/-- one throw alone comes down at b -/
theorem Jug.hit (J : Jug R) (b : Int) {s : Nat} (hs : s < R.length) (h : ((s : Int) + R.getD s 0) % R.length = b % R.length) (j : Int) : rowV R (b - j) = j ↔ j = R.getD s 0 := by
  constructor
  · intro e
    have h0 := Int.emod_nonneg (b - j) (Int.ne_of_gt J.len)
    have h1 := Int.emod_lt_of_pos (b - j) J.len
    have hk : ((b - j) % R.length).toNat < R.length := by omega
    have e' : R.getD ((b - j) % R.length).toNat 0 = j := e
    have : ((b - j) % R.length).toNat = s := J.inj hk hs (by
      rw [e', h, Int.toNat_of_nonneg h0]; exact mod_fwd)
    rw [← this]; exact e'.symm
  · intro e
    have : (b - j) % R.length = s := mod_back (by rw [e]; exact h) (by omega) (by omega)
    unfold rowV
    rw [this, e]; rfl
theorem Jug.top (J : Jug R) {s : Nat} (hs : s < R.length) : 0 ≤ R.getD s 0 ∧ R.getD s 0 ≤ 35 := by
  rw [List.getD_eq_getElem?_getD, List.getElem?_eq_getElem hs]
  exact J.hi _ (List.getElem_mem hs)
theorem Jug.back (J : Jug R) (b : Int) {s : Nat} (hs : s < R.length) (h : ((s : Int) + R.getD s 0) % R.length = b % R.length) : (List.range 36).filter (fun j : Nat => decide (rowV R (b - j) = j)) = [(R.getD s 0).toNat] := by
  have ht := J.top hs
  refine filter_one (by omega) fun j _ => ?_
  rw [decide_eq_true_iff, J.hit b hs h]
  omega
/-- how many are in the air -/
def airV (R : List Int) (b : Int) : Int := S 36 fun j => if decide (rowV R (b - j) > j) then 1 else 0
theorem Jug.air1 (J : Jug R) (b : Int) : airV R (b + 1) = airV R b := by
  obtain ⟨s, hs, h⟩ := J.src (b + 1)
  have e1 := S_filter (n := 36) (fun j : Nat => decide (rowV R (b + 1 - j) = j))
  rw [J.back (b + 1) hs h] at e1
  have e2 : airV R b + 1 = S 36 fun j => if decide (rowV R (b + 1 - j) ≥ j) then 1 else 0 := by
    have a : S 37 (fun j : Nat => if decide (rowV R (b + 1 - j) ≥ j) then (1 : Int) else 0) = 1 + airV R b := by
      rw [S_front]
      have := (J.row (b + 1 - (0 : Nat))).1
      have e0 : (if decide (rowV R (b + 1 - (0 : Nat)) ≥ ((0 : Nat) : Int)) then (1 : Int) else 0) = 1 := by
        rw [decide_eq_true (by omega)]; rfl
      rw [e0]
      congr 1
      refine S_congr fun j _ => ?_
      have : b + 1 - ((j + 1 : Nat) : Int) = b - j := by omega
      rw [this]
      have : (rowV R (b - j) ≥ ((j + 1 : Nat) : Int)) ↔ (rowV R (b - j) > j) := by omega
      rw [decide_eq_decide.mpr this]
    have a2 : S 37 (fun j : Nat => if decide (rowV R (b + 1 - j) ≥ j) then (1 : Int) else 0) = S 36 (fun j : Nat => if decide (rowV R (b + 1 - j) ≥ j) then (1 : Int) else 0) := by
      rw [S]
      have := (J.row (b + 1 - (36 : Nat))).2
      rw [decide_eq_false (p := rowV R (b + 1 - (36 : Nat)) ≥ ((36 : Nat) : Int)) (by omega)]
      simp
    omega
  have e3 : S 36 (fun j : Nat => if decide (rowV R (b + 1 - j) ≥ j) then (1 : Int) else 0) = airV R (b + 1) + S 36 (fun j : Nat => if decide (rowV R (b + 1 - j) = j) then (1 : Int) else 0) := by
    unfold airV
    rw [← S_add]
    refine S_congr fun j _ => ?_
    rcases Int.lt_trichotomy (rowV R (b + 1 - j)) j with z | z | z
    · rw [decide_eq_false (by omega), decide_eq_false (by omega), decide_eq_false (by omega)]; rfl
    · rw [decide_eq_true (by omega), decide_eq_false (by omega), decide_eq_true (by omega)]; rfl
    · rw [decide_eq_true (by omega), decide_eq_true (by omega), decide_eq_false (by omega)]; rfl
  simp at e1
  simp at e2 e3
  omega
theorem Jug.air0 (J : Jug R) (b : Int) : airV R b = airV R 0 := by
  have up : ∀ k : Nat, airV R k = airV R 0 := fun k => by
    induction k with
    | zero => rfl
    | succ k ih => rw [← ih]; exact J.air1 k
  have dn : ∀ k : Nat, airV R (-(k : Int)) = airV R 0 := fun k => by
    induction k with
    | zero => rfl
    | succ k ih =>
      rw [← ih]
      have := J.air1 (-((k : Int) + 1))
      rw [show -((k : Int) + 1) + 1 = -(k : Int) by omega] at this
      exact this.symm
  rcases Int.le_total 0 b with h | h
  · have := up b.toNat
    rwa [Int.toNat_of_nonneg h] at this
  · have := dn (-b).toNat
    rwa [Int.toNat_of_nonneg (by omega), Int.neg_neg] at this
theorem S_shift {n : Nat} {G : Int → Int} (hp : ∀ x, G (x + n) = G x) (j : Nat) : S n (fun b => G (b - j)) = S n (fun b => G b) := by
  induction j with
  | zero => simp
  | succ j ih =>
    rw [← ih]
    have h := S_front (n := n) (f := fun b => G (b - (j + 1 : Nat)))
    rw [S] at h
    have e1 : G (((0 : Nat) : Int) - (j + 1 : Nat)) = G ((n : Int) - (j + 1 : Nat)) := by
      rw [← hp]; congr 1
    have e2 : S n (fun i => G (((i + 1 : Nat) : Int) - (j + 1 : Nat))) = S n (fun b => G (b - j)) := S_congr fun i _ => by congr 1; omega
    rw [e2] at h
    rw [e1] at h
    omega
theorem rowV_per (x : Int) : rowV R (x + R.length) = rowV R x := by
  unfold rowV
  rw [Int.add_emod_right]
theorem rowV_nat {s : Nat} (h : s < R.length) : rowV R s = R.getD s 0 := by
  unfold rowV
  rw [Int.emod_eq_of_lt (by omega) (by omega)]; rfl
theorem S_ind {h : Int} (h0 : 0 ≤ h) (m : Nat) (h1 : h ≤ m) : S m (fun j => if decide (h > j) then 1 else 0) = h := by
  have : ∀ k : Nat, S k (fun j => if decide (h > j) then 1 else 0) = min h k := fun k => by
    induction k with
    | zero => rw [S]; omega
    | succ k ih =>
      rw [S, ih]
      by_cases z : h > k
      · rw [decide_eq_true z]; simp; omega
      · rw [decide_eq_false z]; simp; omega
  rw [this]; omega
theorem Jug.air (J : Jug R) (b : Int) : airV R b = R.sum / R.length ∧ R.sum % R.length = 0 := by
  have h1 : (R.length : Int) * airV R 0 = S R.length (fun b => airV R b) := by
    rw [← S_const]
    exact S_congr fun i _ => (J.air0 i).symm
  have h2 : S R.length (fun b => airV R b) = R.sum := by
    unfold airV
    rw [S_swap]
    have : ∀ j, j < 36 → S R.length (fun i => if decide (rowV R ((i : Int) - (j : Nat)) > (j : Nat)) then (1 : Int) else 0) = S R.length (fun i => if decide (R.getD i 0 > ((j : Nat) : Int)) then (1 : Int) else 0) := fun j _ => by
      rw [S_shift (n := R.length) (G := fun x => if decide (rowV R x > (j : Nat)) then (1 : Int) else 0) (fun x => by rw [rowV_per])]
      exact S_congr fun i hi => by rw [rowV_nat hi]
    rw [S_congr this, S_swap, ← S_sum]
    exact S_congr fun i hi => S_ind (J.top hi).1 36 (by have := (J.top hi).2; omega)
  rw [h2] at h1
  rw [J.air0, ← h1]
  exact ⟨(Int.mul_ediv_cancel_left _ (Int.ne_of_gt J.len)).symm, Int.mul_emod_right _ _⟩
end Py
end
section
set_option linter.all false
set_option Elab.async false
namespace Py
/-! Plain: drawn rows, heights put right, common measures. -/
theorem erase_perm {α : Type} : ∀ {l : List α} {i : Nat} (h : i < l.length), (l[i] :: l.eraseIdx i).Perm l
  | a :: l, 0, _ => List.Perm.refl _
  | a :: l, i + 1, h => ((List.Perm.swap _ _ _)).trans ((erase_perm (by simpa using h)).cons a)
def rngI (n : Nat) : List Int := (List.range n).map fun k : Nat => (k : Int)
theorem rngI_len (n : Nat) : (rngI n).length = n := by simp [rngI]
theorem mem_rngI {n : Nat} {x : Int} : x ∈ rngI n ↔ 0 ≤ x ∧ x < n := by
  unfold rngI
  rw [List.mem_map]
  constructor
  · rintro ⟨k, hk, rfl⟩
    have := List.mem_range.mp hk
    omega
  · rintro ⟨h0, h1⟩
    exact ⟨x.toNat, List.mem_range.mpr (by omega), by omega⟩
theorem rngI_nodup (n : Nat) : (rngI n).Nodup := by
  unfold rngI
  have := List.nodup_range (n := n)
  exact List.Pairwise.map _ (fun a b h => by have : a ≠ b := h; omega) this
def landN (n : Int) (R : List Int) : List Int := R.mapIdx fun k h => ((k : Int) + h) % n
theorem landN_add {n h : Int} {R : List Int} : landN n (R ++ [h]) = landN n R ++ [((R.length : Int) + h) % n] := by
  unfold landN
  rw [List.mapIdx_append]
  simp
theorem landN_len {n : Int} {R : List Int} : (landN n R).length = R.length := by simp [landN]
theorem landN_self {R : List Int} : landN R.length R = landV' R := rfl
/-- a place drawn, a height that lands there -/
theorem pick_ok {n : Nat} {R left : List Int} {i : Nat} {h : Int} (hp : (landN n R ++ left).Perm (rngI n)) (hi : i < left.length) (hh : ((R.length : Int) + h) % n = left[i]) : (landN n (R ++ [h]) ++ left.eraseIdx i).Perm (rngI n) := by
  refine List.Perm.trans ?_ hp
  rw [landN_add, hh, List.append_assoc]
  exact List.Perm.append_left _ (erase_perm hi)
theorem pick_len {n : Nat} {R left : List Int} (hp : (landN n R ++ left).Perm (rngI n)) : R.length + left.length = n := by
  have := hp.length_eq
  rw [List.length_append, landN_len, rngI_len] at this
  exact this
theorem pick_end {n : Nat} {R left : List Int} (hp : (landN n R ++ left).Perm (rngI n)) (hn : R.length = n) : (landV' R).Nodup := by
  have hl := pick_len hp
  have : left = [] := List.length_eq_zero_iff.mp (by omega)
  subst this
  rw [List.append_nil] at hp
  rw [← landN_self, hn]
  exact hp.nodup_iff.mpr (rngI_nodup n)
theorem pick_mem {n : Nat} {R left : List Int} (hp : (landN n R ++ left).Perm (rngI n)) {x : Int} (hx : x ∈ left) : 0 ≤ x ∧ x < n := mem_rngI.mp (hp.mem_iff.mp (List.mem_append_right _ hx))
/-! ### the least height that is free -/
def upN (p : Int → Bool) : Nat → Int → Int
  | 0, h => h
  | m + 1, h => if p h then upN p m (h + 1) else h
theorem upN_stop {p : Int → Bool} {m : Nat} {h : Int} (e : p h = false) : upN p m h = h := by
  cases m with
  | zero => rfl
  | succ m => rw [upN, e]; rfl
theorem upN_go {p : Int → Bool} {m : Nat} {h : Int} (e : p h = true) : upN p (m + 1) h = upN p m (h + 1) := by
  rw [upN, e]; rfl
theorem upN_free {p : Int → Bool} : ∀ {m : Nat} {h : Int} (d : Nat), d ≤ m → p (h + d) = false → p (upN p m h) = false
  | 0, h, d, hd, e => by
    have : d = 0 := by omega
    subst this
    rw [upN]
    simpa using e
  | m + 1, h, d, hd, e => by
    cases hp : p h with
    | false => rw [upN_stop hp]; exact hp
    | true =>
      rw [upN_go hp]
      cases d with
      | zero => rw [show h + ((0 : Nat) : Int) = h by omega, hp] at e; cases e
      | succ d => exact upN_free d (by omega) (by rw [show h + 1 + (d : Int) = h + ((d + 1 : Nat) : Int) by omega]; exact e)
/-- the places below n that are taken -/
def takP (n : Nat) (T : List Int) (b : Nat) (h : Int) : Bool := decide (((b : Int) + h) % (n : Int) ∈ T)
theorem tak_free {n : Nat} {T : List Int} (hT : T.length < n) (b : Nat) (h : Int) : takP n T b (upN (takP n T b) n h) = false := by
  obtain ⟨t, h0, h1, h2⟩ := free_one hT
  have hn : (0 : Int) < n := by omega
  have a0 := Int.emod_nonneg (t - b - h) (Int.ne_of_gt hn)
  have a1 := Int.emod_lt_of_pos (t - b - h) hn
  refine upN_free ((t - b - h) % n).toNat (by omega) ?_
  unfold takP
  apply decide_eq_false
  have : ((b : Int) + (h + (((t - b - h) % n).toNat : Int))) % (n : Int) = t := by
    rw [Int.toNat_of_nonneg a0, ← Int.add_assoc, Int.add_emod_emod, show (b : Int) + h + (t - b - h) = t by omega]
    exact Int.emod_eq_of_lt h0 h1
  rw [this]
  exact h2
def mkS (n : Nat) (acc : List Int) (h : Int) : List Int := acc ++ [upN (takP n (landN n acc) acc.length) n h]
def madeV (R : List Int) (k : Nat) : List Int := (R.take k).foldl (mkS R.length) []
theorem madeV_succ {R : List Int} {k : Nat} {h : Int} (e : R[k]? = some h) : madeV R (k + 1) = madeV R k ++ [upN (takP R.length (landN R.length (madeV R k)) (madeV R k).length) R.length h] := by
  unfold madeV
  rw [List.take_add_one, e, List.foldl_append]
  rfl
theorem madeV_len {R : List Int} {k : Nat} (hk : k ≤ R.length) : (madeV R k).length = k := by
  induction k with
  | zero => rfl
  | succ k ih =>
    rw [madeV_succ (List.getElem?_eq_getElem (by omega : k < R.length)), List.length_append, ih (by omega)]; rfl
theorem madeV_free {R : List Int} {k : Nat} {h : Int} (e : R[k]? = some h) : takP R.length (landN R.length (madeV R k)) k (upN (takP R.length (landN R.length (madeV R k)) k) R.length h) = false := by
  have hk := (List.getElem?_eq_some_iff.mp e).1
  exact tak_free (by rw [landN_len, madeV_len (by omega)]; exact hk) k h
theorem madeV_land {R : List Int} {k : Nat} {h : Int} (e : R[k]? = some h) : landN R.length (madeV R (k + 1)) = landN R.length (madeV R k) ++ [((k : Int) + upN (takP R.length (landN R.length (madeV R k)) k) R.length h) % R.length] := by
  have hk := (List.getElem?_eq_some_iff.mp e).1
  rw [madeV_succ e, landN_add, madeV_len (by omega)]
theorem madeV_nodup {R : List Int} {k : Nat} (hk : k ≤ R.length) : (landN R.length (madeV R k)).Nodup := by
  induction k with
  | zero => exact List.nodup_nil
  | succ k ih =>
    have e := List.getElem?_eq_getElem (by omega : k < R.length)
    rw [madeV_land e, List.nodup_append]
    refine ⟨ih (by omega), by simp, fun a ha b hb => ?_⟩
    rw [List.mem_singleton.mp hb]
    intro z
    have := madeV_free e
    unfold takP at this
    have := of_decide_eq_false this
    exact this (z ▸ ha)
/-! ### same numbers in another order -/
def iSort (L : List Int) : List Int := L.mergeSort fun a b => decide (a ≤ b)
theorem iSort_perm {A B : List Int} (h : A.Perm B) : iSort A = iSort B := by
  have s := fun L => List.pairwise_mergeSort (le := fun (a b : Int) => decide (a ≤ b)) (fun a b c h1 h2 => by simp at h1 h2 ⊢; omega) (fun a b => by simp; omega) L
  refine List.Perm.eq_of_pairwise (le := fun a b => decide (a ≤ b) = true) (fun a b _ _ h1 h2 => ?_) (s A) (s B) ?_
  · simp at h1 h2; omega
  · exact (List.mergeSort_perm _ _).trans (h.trans (List.mergeSort_perm _ _).symm)
theorem map_rng {α : Type} {L : List α} {d : α} : (List.range L.length).map (fun k => L.getD k d) = L := by
  apply List.ext_getElem
  · simp
  · intro i h1 h2
    simp [h2]
theorem perm_row {R O : List Int} (h : O.Perm (rngI R.length)) : (O.map fun k => R.getD k.toNat 0).Perm R := by
  refine (h.map _).trans ?_
  unfold rngI
  rw [List.map_map]
  have : (fun k : Int => R.getD k.toNat 0) ∘ (fun k : Nat => (k : Int)) = fun k : Nat => R.getD k 0 := by
    funext k; simp
  rw [this, map_rng]
end Py
end
section
set_option Elab.async false
set_option linter.all false
set_option maxRecDepth 100000
/-! The plain side: what the operations answer on numbers, lists, dicts. -/
namespace Py
open PySem
@[simp] theorem oAdd_int (i j : Int) : oAdd [.int i, .int j] = some (.int (i + j), false) := rfl
@[simp] theorem oAddIS_int (i j : Int) : oOr oAddI oAddS [.int i, .int j] = some (.int (i + j), false) := rfl
@[simp] theorem oSub_int (i j : Int) : oSub [.int i, .int j] = some (.int (i - j), false) := rfl
@[simp] theorem oSubI_int (i j : Int) : oSubI [.int i, .int j] = some (.int (i - j), false) := rfl
theorem oMul_int {i j : Int} (h : cMul i j = true) : oMul [.int i, .int j] = some (.int (i * j), false) := by
  simp [oMul, oMulI, oOr, oI, h]
theorem oMul_intW {i j : Int} (h : i.natAbs.log2 + j.natAbs.log2 < 1000000) : oMul [.int i, .int j] = some (.int (i * j), false) := by
  by_cases h2 : cMul i j = true
  · exact oMul_int h2
  · simp [oMul, oMulI, oOr, oI, h2, cMulW, h]
theorem cMul_l {i j : Int} (h1 : -(2 ^ 64) < i) (h2 : i < 2 ^ 64) : cMul i j = true := by unfold cMul; rw [decide_eq_true h1, decide_eq_true h2]; rfl
theorem cMul_r {i j : Int} (h1 : -(2 ^ 64) < j) (h2 : j < 2 ^ 64) : cMul i j = true := by unfold cMul; rw [decide_eq_true h1, decide_eq_true h2]; simp
theorem oMod_pos {i j : Int} (h : 0 < j) : oMod [.int i, .int j] = some (.int (i % j), false) := by
  have h1 : j ≠ 0 := by omega
  simp [oMod, oI, cNz, h1, Int.fmod_eq_emod_of_nonneg i (Int.le_of_lt h)]
theorem oDiv_pos {i j : Int} (h : 0 < j) (h2 : j < 1073741824) : oDiv [.int i, .int j] = some (.int (i / j), false) := by
  have h1 : j ≠ 0 := by omega
  have h3 : j.natAbs < 1073741824 := by omega
  simp [oDiv, oOr, oI, cDivN, h1, h3, Int.fdiv_eq_ediv_of_nonneg i (Int.le_of_lt h)]
@[simp] theorem oInt1_int (i : Int) : oInt1 [.int i] = some (.int i, false) := rfl
@[simp] theorem oInt1_bool (b : Bool) : oInt1 [.bool b] = some (.int (if b then 1 else 0), false) := rfl
@[simp] theorem oAbs_int (i : Int) : oAbs [.int i] = some (.int (if i < 0 then -i else i), false) := rfl
@[simp] theorem oLen_list (ds : List PyData) : oLen [.list ds] = some (.int ds.length, false) := rfl
@[simp] theorem oLen_tuple (ds : List PyData) : oLen [.tuple ds] = some (.int ds.length, false) := rfl
@[simp] theorem oLt_int (i j : Int) : oLt [.int i, .int j] = some (.bool (decide (i < j)), false) := rfl
@[simp] theorem oLe_int (i j : Int) : oLe [.int i, .int j] = some (.bool (decide (i ≤ j)), false) := rfl
@[simp] theorem oGt_int (i j : Int) : oGt [.int i, .int j] = some (.bool (decide (j < i)), false) := rfl
@[simp] theorem oGe_int (i j : Int) : oGe [.int i, .int j] = some (.bool (decide (j ≤ i)), false) := rfl
@[simp] theorem oEq_int (i j : Int) : oEq [.int i, .int j] = some (.bool (decide (i = j)), false) := by
  have e : (i == j) = decide (i = j) := by rw [Bool.eq_iff_iff]; simp
  simp [oEq, SeqAt.shaped, PyData.canLay0, PyData.eqv, PyData.depth, e]

open L2
theorem atI_nn {α : Type} {ds : List α} {i : Int} (h0 : 0 ≤ i) : atI ds i = ds[i.toNat]? := by
  unfold atI ixN
  rw [if_pos h0]
  by_cases h : i < ds.length
  · rw [if_pos h]; rfl
  · rw [if_neg h, List.getElem?_eq_none (by omega)]; rfl
theorem ixN_nn {n : Nat} {i : Int} (h0 : 0 ≤ i) (h : i < n) : ixN n i = some i.toNat := by unfold ixN; rw [if_pos h0, if_pos h]
theorem oIx_list {ds : List PyData} {i : Int} {d : PyData} (h0 : 0 ≤ i) (h : ds[i.toNat]? = some d) : oIx [.list ds, .int i] = some (d, false) := by
  have e : oIxL [.list ds, .int i] = some (d, false) := by show (atI ds i).map _ = _; rw [atI_nn h0, h]; rfl
  simp [oIx, oOr, e]
theorem oIx_tuple {ds : List PyData} {i : Int} {d : PyData} (h0 : 0 ≤ i) (h : ds[i.toNat]? = some d) : oIx [.tuple ds, .int i] = some (d, false) := by
  have e : oIxT [.tuple ds, .int i] = some (d, false) := by show (atI ds i).map _ = _; rw [atI_nn h0, h]; rfl
  have e2 : oIxL [.tuple ds, .int i] = none := rfl
  simp [oIx, oOr, e, e2]
theorem oIx_ints {ns : List Int} {i : Int} (h0 : 0 ≤ i) (h : i < ns.length) : oIx [.list (ns.map .int), .int i] = some (.int (ns.getD i.toNat 0), false) := by
  refine oIx_list h0 ?_
  have h1 : i.toNat < ns.length := by omega
  simp [List.getD_eq_getElem?_getD, h1]
theorem oIx_intsT {ns : List Int} {i : Int} (h0 : 0 ≤ i) (h : i < ns.length) : oIx [.tuple (ns.map .int), .int i] = some (.int (ns.getD i.toNat 0), false) := by
  refine oIx_tuple h0 ?_
  have h1 : i.toNat < ns.length := by omega
  simp [List.getD_eq_getElem?_getD, h1]
theorem oIx_dict {kvs : List (PyData × PyData)} {k d : PyData} (h : dAt (.dict kvs) k = some (some d)) : oIx [.dict kvs, k] = some (d, false) := by
  have e : oIxD [.dict kvs, k] = some (d, false) := by show (match dAt (.dict kvs) k with | some (some v) => some (v, false) | _ => none) = _; rw [h]
  have e1 : oIxL [.dict kvs, k] = none := by unfold oIxL; split <;> first | rfl | (rename_i q; cases q)
  have e2 : oIxT [.dict kvs, k] = none := by unfold oIxT; split <;> first | rfl | (rename_i q; cases q)
  have e3 : oIxS [.dict kvs, k] = none := by unfold oIxS; split <;> first | rfl | (rename_i q; cases q)
  simp [oIx, oOr, e, e1, e2, e3]
/-! ### the laws' box of numbers -/
def boxD (row : List Int) (at_ : Int) : PyData := .dict [(.str "row", .list (row.map .int)), (.str "at", .int at_)]
theorem box_row (row : List Int) (a : Int) : oIx [boxD row a, .str "row"] = some (.list (row.map .int), false) := oIx_dict rfl
theorem box_at (row : List Int) (a : Int) : oIx [boxD row a, .str "at"] = some (.int a, false) := oIx_dict rfl
theorem box_put (row : List Int) (a b : Int) : uSet (boxD row a) (.str "at") (.int b) = some (boxD row b) := rfl

/-! ### what a meaning answers, as a question -/
@[irreducible] def wp {α : Type} (x : R α) (Q : α → Prop) (E : String → PyData → Prop) : Prop := match x with
  | .ok a => Q a
  | .ex c d _ => E c d
  | .bad => False
@[simp] theorem wp_ok {α : Type} (a : α) (Q : α → Prop) (E : String → PyData → Prop) : wp (.ok a) Q E = Q a := by unfold wp; rfl
@[simp] theorem wp_ex {α : Type} (c : String) (d : PyData) (e : Nv) (Q : α → Prop) (E : String → PyData → Prop) : wp (.ex c d e) Q E = E c d := by unfold wp; rfl
@[simp] theorem wp_bad {α : Type} (Q : α → Prop) (E : String → PyData → Prop) : wp (.bad : R α) Q E = False := by unfold wp; rfl
theorem wp_bnd {α β : Type} (x : R α) (f : α → R β) (Q : β → Prop) (E : String → PyData → Prop) : wp (bnd x f) Q E = wp x (fun a => wp (f a) Q E) E := by
  cases x with
  | ok a => rw [bnd_ok, wp_ok]
  | ex c d e => rw [bnd_ex, wp_ex, wp_ex]
  | bad => rw [bnd_bad, wp_bad, wp_bad]
theorem wp_mono {α : Type} {x : R α} {Q Q' : α → Prop} {E E' : String → PyData → Prop} (h : wp x Q E) (hq : ∀ a, Q a → Q' a) (he : ∀ c d, E c d → E' c d) : wp x Q' E' := by
  cases x with
  | ok a => rw [wp_ok] at h ⊢; exact hq a h
  | ex c d e => rw [wp_ex] at h ⊢; exact he c d h
  | bad => rw [wp_bad] at h; exact h.elim
theorem wp_get {α : Type} {x : R α} {Q : α → Prop} (h : wp x Q fun _ _ => False) : ∃ a, x = .ok a ∧ Q a := by
  cases x with
  | ok a => rw [wp_ok] at h; exact ⟨a, rfl, h⟩
  | ex c d e => rw [wp_ex] at h; exact h.elim
  | bad => rw [wp_bad] at h; exact h.elim
/-- a statement's way on -/
def goOn (P : Nv → Prop) (Q : Fl → Prop) : Fl → Prop
  | .nx e => P e
  | .ct e => P e
  | .bk e => Q (.nx e)
  | .rt d o e => Q (.rt d o e)
theorem wp_forL {g : GV} {body : SV} {Q : Fl → Prop} {E : String → PyData → Prop} (P : Nat → Nv → Prop) : ∀ (ds : List PyData) (e : Nv) (k0 : Nat), P k0 e →
    (∀ (k : Nat) (d : PyData) (e : Nv), ds[k]? = some d → P (k0 + k) e → ∃ e1, g d false e = some e1 ∧ wp (body e1) (goOn (P (k0 + k + 1)) Q) E) → (∀ e, P (k0 + ds.length) e → Q (.nx e)) → wp (forL g body ds e) Q E
  | [], e, k0, h0, _, hq => by rw [forL, wp_ok]; exact hq e h0
  | d :: ds, e, k0, h0, hs, hq => by
    obtain ⟨e1, h1, h2⟩ := hs 0 d e rfl h0
    unfold forL
    rw [h1]
    show wp (bnd (body e1) _) Q E
    rw [wp_bnd]
    have ih : ∀ e2, P (k0 + 1) e2 → wp (forL g body ds e2) Q E := fun e2 hp => by
      refine wp_forL P ds e2 (k0 + 1) hp (fun k d' e' hd hp' => ?_) (fun e' hp' => hq e' ?_)
      · have a : k0 + 1 + k = k0 + (k + 1) := by omega
        rw [a] at hp' ⊢
        exact hs (k + 1) d' e' (by simpa using hd) hp'
      · have a : k0 + 1 + ds.length = k0 + (ds.length + 1) := by omega
        rw [a] at hp'
        rw [List.length_cons]
        exact hp'
    refine wp_mono h2 (fun f hf => ?_) fun _ _ z => z
    cases f with
    | nx e2 => exact ih e2 hf
    | ct e2 => exact ih e2 hf
    | bk e2 => show wp (.ok (.nx e2)) Q E; rw [wp_ok]; exact hf
    | rt v o e2 => show wp (.ok (.rt v o e2)) Q E; rw [wp_ok]; exact hf
theorem wp_for {it : IV} {g : GV} {body : SV} {Q : Fl → Prop} {E : String → PyData → Prop} {e e1 : Nv} {ds : List PyData} (hi : it e = .ok (ds, e1)) (P : Nat → Nv → Prop) (h0 : P 0 e1)
    (hs : ∀ (k : Nat) (d : PyData) (e : Nv), ds[k]? = some d → P k e → ∃ e1, g d false e = some e1 ∧ wp (body e1) (goOn (P (k + 1)) Q) E) (hq : ∀ e, P ds.length e → Q (.nx e)) : wp (sFor it g body e) Q E := by
  unfold sFor
  rw [hi, bnd_ok]
  exact wp_forL P ds e1 0 h0 (fun k d e a b => by rw [Nat.zero_add] at b ⊢; exact hs k d e a b) (fun e a => hq e (by rw [Nat.zero_add] at a; exact a))
/-- what follows a loop's test -/
def whlK (body : SV) (P : Nv → Prop) (Q : Fl → Prop) (E : String → PyData → Prop) : Bool × Nv → Prop
  | (true, e) => wp (body e) (goOn P Q) E
  | (false, e) => Q (.nx e)
theorem whlK_t {body : SV} {P : Nv → Prop} {Q : Fl → Prop} {E : String → PyData → Prop} {e : Nv} : whlK body P Q E (true, e) = wp (body e) (goOn P Q) E := rfl
theorem whlK_f {body : SV} {P : Nv → Prop} {Q : Fl → Prop} {E : String → PyData → Prop} {e : Nv} : whlK body P Q E (false, e) = Q (.nx e) := rfl
theorem wp_whl {t : TV} {body : SV} {Q : Fl → Prop} {E : String → PyData → Prop} (P : Nat → Nv → Prop) : ∀ (n : Nat) (e : Nv) (m : Nat), m < n → P m e →
    (∀ (m : Nat) (e : Nv), P m e → wp (t e) (whlK body (fun e2 => ∃ m', m' < m ∧ P m' e2) Q E) E) → wp (sWhl n t body e) Q E
  | 0, e, m, hm, _, _ => absurd hm (Nat.not_lt_zero _)
  | n + 1, e, m, hm, hp, hs => by
    show wp (bnd (t e) _) Q E
    rw [wp_bnd]
    refine wp_mono (hs m e hp) (fun p hp2 => ?_) fun _ _ z => z
    obtain ⟨b, e3⟩ := p
    cases b with
    | false => show wp (.ok (.nx e3)) Q E; rw [wp_ok]; exact hp2
    | true =>
      show wp (bnd (body e3) _) Q E
      rw [wp_bnd]
      refine wp_mono (show wp (body e3) _ E from hp2) (fun f hf => ?_) fun _ _ z => z
      cases f with
      | nx e2 => obtain ⟨m', h1, h2⟩ := hf; exact wp_whl P n e2 m' (by omega) h2 hs
      | ct e2 => obtain ⟨m', h1, h2⟩ := hf; exact wp_whl P n e2 m' (by omega) h2 hs
      | bk e2 => show wp (.ok (.nx e2)) Q E; rw [wp_ok]; exact hf
      | rt v o e2 => show wp (.ok (.rt v o e2)) Q E; rw [wp_ok]; exact hf
/-- the rest of a block -/
def seqK (r : List SV) (Q : Fl → Prop) (E : String → PyData → Prop) : Fl → Prop
  | .nx e' => wp (sSeq r e') Q E
  | .rt d o e => Q (.rt d o e)
  | .bk e => Q (.bk e)
  | .ct e => Q (.ct e)
theorem wp_seq {s : SV} {r : List SV} {e : Nv} {Q : Fl → Prop} {E : String → PyData → Prop} : wp (sSeq (s :: r) e) Q E = wp (s e) (seqK r Q E) E := by
  show wp (bnd (s e) _) Q E = _
  rw [wp_bnd]
  congr 1
  funext f
  cases f with
  | nx e => rfl
  | rt d o e => exact wp_ok _ _ _
  | bk e => exact wp_ok _ _ _
  | ct e => exact wp_ok _ _ _
theorem wp_nx {r : List SV} {e : Nv} {Q : Fl → Prop} {E E' : String → PyData → Prop} : wp (.ok (.nx e)) (seqK r Q E) E' = wp (sSeq r e) Q E := by rw [wp_ok]; rfl
theorem seqK_nx {r : List SV} {e : Nv} {Q : Fl → Prop} {E : String → PyData → Prop} : seqK r Q E (.nx e) = wp (sSeq r e) Q E := rfl
theorem seqK_rt {r : List SV} {d : PyData} {o : Bool} {e : Nv} {Q : Fl → Prop} {E : String → PyData → Prop} : seqK r Q E (.rt d o e) = Q (.rt d o e) := rfl
theorem wp_nil {e : Nv} {Q : Fl → Prop} {E : String → PyData → Prop} : wp (sSeq [] e) Q E = Q (.nx e) := wp_ok _ _ _
/-- the way a def's body must end -/
def retQ (Z : PyData → Bool → Prop) : Fl → Prop
  | .nx _ => Z .none false
  | .rt d o _ => Z d o
  | _ => False
@[simp] theorem retQ_nx (Z : PyData → Bool → Prop) (e : Nv) : retQ Z (.nx e) = Z .none false := rfl
@[simp] theorem retQ_rt (Z : PyData → Bool → Prop) (d : PyData) (o : Bool) (e : Nv) : retQ Z (.rt d o e) = Z d o := rfl
theorem fn_ret {n k : Nat} {body : SV} {ds : List PyData} {Z : PyData → Bool → Prop} (hk : ds.length = k) (h : wp (body (ini ds n)) (retQ Z) fun _ _ => False) : ∃ d o, fn n k body ds = .ret d o .none ∧ Z d o := by
  obtain ⟨f, h1, h2⟩ := wp_get h
  unfold fn
  rw [if_pos hk, h1]
  cases f with
  | nx e => exact ⟨_, _, rfl, h2⟩
  | rt d o e => exact ⟨d, o, rfl, h2⟩
  | ct e => exact h2.elim
  | bk e => exact h2.elim
/-- a comprehension over data -/
theorem lcL_ok {vs : List Nat} {g : GV} {t : TV} {f : EV} (I : Nv → Prop) (keep : PyData → Bool) (h : PyData → PyData) : ∀ (ds acc : List PyData) (e : Nv), I e → acc.length + ds.length ≤ 16777216 →
    (∀ d ∈ ds, ∀ e, I e → ∃ e1 e2, g d false e = some e1 ∧ t e1 = .ok (keep d, e2) ∧ (keep d = false → I (wipeE e2 vs)) ∧ (keep d = true → ∃ o e3, f e2 = .ok (h d, o, e3) ∧ I (wipeE e3 vs))) →
    ∃ e', lcL vs g t f ds acc e = .ok (acc ++ (ds.filter keep).map h, e') ∧ I e'
  | [], acc, e, hI, _, _ => ⟨e, by simp [lcL], hI⟩
  | d :: ds, acc, e, hI, hl, hs => by
    obtain ⟨e1, e2, h1, h2, h3, h4⟩ := hs d List.mem_cons_self e hI
    simp only [List.length_cons] at hl
    cases hk : keep d with
    | false =>
      obtain ⟨e', a, b⟩ := lcL_ok I keep h ds acc (wipeE e2 vs) (h3 hk) (by omega) fun d' hd => hs d' (List.mem_cons_of_mem _ hd)
      refine ⟨e', ?_, b⟩
      rw [lcL, h1]
      simp only [h2, nox_ok, bnd_ok, hk, Bool.false_eq_true, if_false, a, List.filter_cons]
    | true =>
      obtain ⟨o, e3, h5, h6⟩ := h4 hk
      obtain ⟨e', a, b⟩ := lcL_ok I keep h ds (acc ++ [h d]) (wipeE e3 vs) h6 (by simp; omega) fun d' hd => hs d' (List.mem_cons_of_mem _ hd)
      refine ⟨e', ?_, b⟩
      rw [lcL, h1]
      have hl2 : acc.length < 16777216 := by omega
      simp only [h2, nox_ok, bnd_ok, hk, if_true, h5, hl2, a, List.filter_cons, List.map_cons, List.append_assoc, List.singleton_append]
end Py
end
section
set_option Elab.async false
set_option linter.all false
/-! Meanings, one step each, at slots that are told. -/
namespace Py
open PySem L2
/-! the last steps, named: so the kernel need not look within -/
def kO (x : Option (PyData × Bool)) (e : Nv) : R (PyData × Bool × Nv) := match x with
  | some (d, o) => .ok (d, o, e)
  | none => .bad
@[simp] theorem kO_some (d : PyData) (o : Bool) (e : Nv) : kO (some (d, o)) e = .ok (d, o, e) := rfl
@[simp] theorem kO_none (e : Nv) : kO none e = .bad := rfl
def kS (s : Slot) (ds : List PyData) (e : Nv) : R (List PyData × Nv) := match s with
  | some (d, _) => .ok (d :: ds, e)
  | none => .bad
@[simp] theorem kS_some (d : PyData) (t : Tg) (ds : List PyData) (e : Nv) : kS (some (d, t)) ds e = .ok (d :: ds, e) := rfl
def kT {α : Type} (T : String) (s : Slot) (x : R α) : R α := match s with
  | some (c, _) => if tyD T c then x else .bad
  | none => .bad
@[simp] theorem kT_some {α : Type} (T : String) (c : PyData) (t : Tg) (x : R α) : kT T (some (c, t)) x = if tyD T c then x else .bad := rfl
def kM2 (i : Nat) (t : Tg) (x : Option (PyData × PyData)) (e : Nv) : R (PyData × Bool × Nv) := match x with
  | some (c', d) => .ok (d, false, e.set i (some (c', t)))
  | none => .bad
@[simp] theorem kM2_some (i : Nat) (t : Tg) (c d : PyData) (e : Nv) : kM2 i t (some (c, d)) e = .ok (d, false, e.set i (some (c, t))) := rfl
def kM (i : Nat) (h : Mt) (s : Slot) (ds : List PyData) (e : Nv) : R (PyData × Bool × Nv) := match s with
  | some (c, t) => if muT t then kM2 i t (h c ds) e else .bad
  | none => .bad
@[simp] theorem kM_some (i : Nat) (h : Mt) (c : PyData) (t : Tg) (ds : List PyData) (e : Nv) : kM i h (some (c, t)) ds e = if muT t then kM2 i t (h c ds) e else .bad := rfl
def kMs (h : Op) (s : Slot) (ds : List PyData) (e : Nv) : R (PyData × Bool × Nv) := match s with
  | some (c, _) => kO (h (c :: ds)) e
  | none => .bad
@[simp] theorem kMs_some (h : Op) (c : PyData) (t : Tg) (ds : List PyData) (e : Nv) : kMs h (some (c, t)) ds e = kO (h (c :: ds)) e := rfl
def kC (x : CR) (e : Nv) : R (PyData × Bool × Nv) := match x with
  | .ret d o _ => .ok (d, o, e)
  | .ex c d => .ex c d e
  | .bad => .bad
@[simp] theorem kC_ret (d : PyData) (o : Bool) (b : PyData) (e : Nv) : kC (.ret d o b) e = .ok (d, o, e) := rfl
@[simp] theorem kC_ex (c : String) (d : PyData) (e : Nv) : kC (.ex c d) e = .ex c d e := rfl
def kCR (i : Nat) (t : Tg) (x : CR) (e : Nv) : R (PyData × Bool × Nv) := match x with
  | .ret d o b => .ok (d, o, e.set i (some (b, t)))
  | _ => .bad
@[simp] theorem kCR_ret (i : Nat) (t : Tg) (d : PyData) (o : Bool) (b : PyData) (e : Nv) : kCR i t (.ret d o b) e = .ok (d, o, e.set i (some (b, t))) := rfl
def kCI (i : Nat) (m : FnV) (s : Slot) (ds : List PyData) (e : Nv) : R (PyData × Bool × Nv) := match s with
  | some (c, .own) => kCR i .own (m (c :: ds)) e
  | some (c, .io) => kCR i .io (m (c :: ds)) e
  | _ => .bad
@[simp] theorem kCI_own (i : Nat) (m : FnV) (c : PyData) (ds : List PyData) (e : Nv) : kCI i m (some (c, .own)) ds e = kCR i .own (m (c :: ds)) e := rfl
@[simp] theorem kCI_io (i : Nat) (m : FnV) (c : PyData) (ds : List PyData) (e : Nv) : kCI i m (some (c, .io)) ds e = kCR i .io (m (c :: ds)) e := rfl
def kG (x : Option Nv) : R Fl := match x with
  | some e => .ok (.nx e)
  | none => .bad
@[simp] theorem kG_some (e : Nv) : kG (some e) = .ok (.nx e) := rfl
def kAu (i : Nat) (x : Option (PyData × Bool)) (e : Nv) : R Fl := match x with
  | some (d, o) => kG (gN i d o e)
  | none => .bad
@[simp] theorem kAu_some (i : Nat) (d : PyData) (o : Bool) (e : Nv) : kAu i (some (d, o)) e = kG (gN i d o e) := rfl
def kP2 (i : Nat) (t : Tg) (x : Option PyData) (e : Nv) : R Fl := match x with
  | some c => .ok (.nx (e.set i (some (c, t))))
  | none => .bad
@[simp] theorem kP2_some (i : Nat) (t : Tg) (c : PyData) (e : Nv) : kP2 i t (some c) e = .ok (.nx (e.set i (some (c, t)))) := rfl
def kP (i : Nat) (h : St3) (s : Slot) (k v : PyData) (e : Nv) : R Fl := match s with
  | some (c, t) => if muT t then kP2 i t (h c k v) e else .bad
  | none => .bad
@[simp] theorem kP_some (i : Nat) (h : St3) (c : PyData) (t : Tg) (k v : PyData) (e : Nv) : kP i h (some (c, t)) k v e = if muT t then kP2 i t (h c k v) e else .bad := rfl
def kI (x : Option (List PyData)) (e : Nv) : R (List PyData × Nv) := match x with
  | some ds => .ok (ds, e)
  | none => .bad
@[simp] theorem kI_some (ds : List PyData) (e : Nv) : kI (some ds) e = .ok (ds, e) := rfl
theorem r_evA0 {a : Slot} {l : Nv} : evA [] (a :: l) = .ok ([], (a :: l)) := rfl
theorem r_evAe {a : Slot} {l : Nv} {f : EV} {r : List Arg} : evA (.ev f :: r) (a :: l) = bnd (f (a :: l)) fun p => bnd (evA r p.2.2) fun q => .ok (p.1 :: q.1, q.2) := rfl
theorem r_evAp {a : Slot} {l : Nv} {i : Nat} {r : List Arg} : evA (.pk i :: r) (a :: l) = if (gt (a :: l) i).isSome then bnd (evA r (a :: l)) fun q => kS (gt q.2 i) q.1 q.2 else .bad := rfl
theorem r_eOp {a : Slot} {l : Nv} {h : Op} {as : List Arg} : eOp h as (a :: l) = bnd (evA as (a :: l)) fun p => kO (h p.1) p.2 := rfl
theorem r_eC {a : Slot} {l : Nv} {d : PyData} : eC d (a :: l) = .ok (d, false, (a :: l)) := rfl
theorem r_eV {a : Slot} {l : Nv} {i : Nat} : eV i (a :: l) = match gt (a :: l) i with
  | some (d, .fz) => .ok (d, false, (a :: l))
  | some (d, .own) => .ok (d, false, List.set (a :: l) i (some (d, .fz)))
  | _ => .bad := rfl
theorem r_eM {a : Slot} {l : Nv} {i : Nat} : eM i (a :: l) = match gt (a :: l) i with
  | some (d, .fz) => .ok (d, false, (a :: l))
  | some (d, .own) => .ok (d, true, List.set (a :: l) i none)
  | _ => .bad := rfl
theorem r_tOf {a : Slot} {l : Nv} {f : EV} : tOf f (a :: l) = bnd (f (a :: l)) fun p => match asB p.1 with
  | some b => .ok (b, p.2.2)
  | none => .bad := rfl
theorem r_tAr {a : Slot} {l : Nv} {x : Arg} : tAr x (a :: l) = bnd (evA [x] (a :: l)) fun p => match p.1 with
  | [d] => (match truth d with
    | some b => .ok (b, p.2)
    | none => .bad)
  | _ => .bad := rfl
theorem r_tAn {a : Slot} {l : Nv} {t u : TV} : tAn t u (a :: l) = bnd (t (a :: l)) fun p => if p.1 then u p.2 else .ok (false, p.2) := rfl
theorem r_tOr {a : Slot} {l : Nv} {t u : TV} : tOr t u (a :: l) = bnd (t (a :: l)) fun p => if p.1 then .ok (true, p.2) else u p.2 := rfl
theorem r_tNo {a : Slot} {l : Nv} {t : TV} : tNo t (a :: l) = bnd (t (a :: l)) fun p => .ok (!p.1, p.2) := rfl
theorem r_tYs {a : Slot} {l : Nv} : tYs (a :: l) = .ok (true, (a :: l)) := rfl
theorem r_eIf {a : Slot} {l : Nv} {t : TV} {f g : EV} : eIf t f g (a :: l) = bnd (t (a :: l)) fun p => if p.1 then f p.2 else g p.2 := rfl
theorem r_eAn {a : Slot} {l : Nv} {f g : EV} : eAn f g (a :: l) = bnd (f (a :: l)) fun p => match truth p.1 with
  | some true => g p.2.2
  | some false => .ok (p.1, false, p.2.2)
  | none => .bad := rfl
theorem r_eOr {a : Slot} {l : Nv} {f g : EV} : eOr f g (a :: l) = bnd (f (a :: l)) fun p => match truth p.1 with
  | some true => .ok (p.1, false, p.2.2)
  | some false => g p.2.2
  | none => .bad := rfl
theorem r_eNo {a : Slot} {l : Nv} {x : Arg} : eNo x (a :: l) = bnd (evA [x] (a :: l)) fun p => match p.1 with
  | [d] => (match truth d with
    | some b => .ok (.bool (!b), false, p.2)
    | none => .bad)
  | _ => .bad := rfl
theorem r_evV0 {a : Slot} {l : Nv} : evV [] (a :: l) = .ok ([], (a :: l)) := rfl
theorem r_evVc {a : Slot} {l : Nv} {f : EV} {r : List EV} : evV (f :: r) (a :: l) = bnd (f (a :: l)) fun p => bnd (evV r p.2.2) fun q => .ok (p.1 :: q.1, q.2) := rfl
theorem r_eMt {a : Slot} {l : Nv} {T : String} {i : Nat} {h : Mt} {fs : List EV} : eMt T i h fs (a :: l) = kT T (gt (a :: l) i) (bnd (evV fs (a :: l)) fun p => kM i h (gt p.2 i) p.1 p.2) := rfl
theorem r_eMs {a : Slot} {l : Nv} {T : String} {i : Nat} {h : Op} {fs : List EV} : eMs T h i fs (a :: l) = kT T (gt (a :: l) i) (bnd (evV fs (a :: l)) fun p => kMs h (gt p.2 i) p.1 p.2) := rfl
theorem r_eMe {a : Slot} {l : Nv} {T : String} {h : Op} {f : EV} {fs : List EV} : eMe T h f fs (a :: l) = bnd (f (a :: l)) fun p => if tyD T p.1 then bnd (evV fs p.2.2) fun q => kO (h (p.1 :: q.1)) q.2 else .bad := rfl
theorem r_eCall {a : Slot} {l : Nv} {m : FnV} {as : List EV} : eCall m as (a :: l) = bnd (evV as (a :: l)) fun p => kC (m p.1) p.2 := rfl
theorem r_eCallI {a : Slot} {l : Nv} {m : FnV} {i : Nat} {as : List EV} : eCallI m i as (a :: l) = if (gt (a :: l) i).isSome then bnd (evV as (a :: l)) fun p => kCI i m (gt p.2 i) p.1 p.2 else .bad := rfl
theorem r_sSeq0 {a : Slot} {l : Nv} : sSeq [] (a :: l) = .ok (.nx (a :: l)) := rfl
theorem r_sSeqc {a : Slot} {l : Nv} {s : SV} {r : List SV} : sSeq (s :: r) (a :: l) = bnd (s (a :: l)) fun f => match f with
    | .nx e' => sSeq r e'
    | f => .ok f := rfl
/-- held by the caller or by a loop -/
def blk : Slot → Bool
  | some (_, .io) => true
  | some (_, .lk) => true
  | _ => false
@[simp] theorem blk_none : blk none = false := rfl
@[simp] theorem blk_fz (d : PyData) : blk (some (d, .fz)) = false := rfl
@[simp] theorem blk_own (d : PyData) : blk (some (d, .own)) = false := rfl
/-- a slot of which no more is known than that it may be set anew -/
def jS (o : Option (PyData × Bool)) : Slot := o.map fun p => (p.1, if p.2 then .own else .fz)
def cS (o : Option PyData) : Slot := o.map fun d => (d, .fz)
@[simp] theorem blk_jS (o : Option (PyData × Bool)) : blk (jS o) = false := by
  cases o with
  | none => rfl
  | some p => (obtain ⟨d, b⟩ := p; cases b <;> rfl)
@[simp] theorem blk_cS (o : Option PyData) : blk (cS o) = false := by cases o <;> rfl
def calmS : Slot → Bool
  | none => true
  | some (_, .fz) => true
  | _ => false
@[simp] theorem calmS_none : calmS none = true := rfl
@[simp] theorem calmS_fz (d : PyData) : calmS (some (d, .fz)) = true := rfl
@[simp] theorem calmS_cS (o : Option PyData) : calmS (cS o) = true := by cases o <;> rfl
theorem calm0 {e : Nv} : calmAt e [] = true := rfl
theorem calmC {e : Nv} {v : Nat} {vs : List Nat} : calmAt e (v :: vs) = (calmS (gt e v) && calmAt e vs) := by
  unfold calmAt
  rw [List.all_cons]
  congr 1
theorem r_gN {a : Slot} {l : Nv} {i : Nat} {d : PyData} {o : Bool} : gN i d o (a :: l) = if blk (gt (a :: l) i) then none else if i < List.length (a :: l) then some (List.set (a :: l) i (some (d, if o then .own else .fz))) else none := by
  unfold gN
  generalize gt (a :: l) i = s
  cases s with
  | none => rfl
  | some p => (obtain ⟨x, t⟩ := p; cases t <;> rfl)
theorem r_gTs0 {a : Slot} {l : Nv} : gTs [] [] (a :: l) = some (a :: l) := rfl
theorem r_gTsc {a : Slot} {l : Nv} {g : GV} {gs : List GV} {d : PyData} {ds : List PyData} : gTs (g :: gs) (d :: ds) (a :: l) = match g d false (a :: l) with
    | some e' => gTs gs ds e'
    | none => none := rfl
theorem r_gT {a : Slot} {l : Nv} {gs : List GV} {ds : List PyData} {o : Bool} : gT gs (.tuple ds) o (a :: l) = gTs gs ds (a :: l) := rfl
theorem r_sAsg {a : Slot} {l : Nv} {g : GV} {f : EV} : sAsg g f (a :: l) = bnd (f (a :: l)) fun p => kG (g p.1 p.2.1 p.2.2) := rfl
theorem r_evO0 {a : Slot} {l : Nv} : evO [] (a :: l) = .ok ([], (a :: l)) := rfl
theorem r_evOc {a : Slot} {l : Nv} {f : EV} {r : List EV} : evO (f :: r) (a :: l) = bnd (f (a :: l)) fun p => bnd (evO r p.2.2) fun q => .ok ((p.1, p.2.1) :: q.1, q.2) := rfl
theorem r_stA0 {a : Slot} {l : Nv} : stA [] [] (a :: l) = some (a :: l) := rfl
theorem r_stAc {a : Slot} {l : Nv} {i : Nat} {is : List Nat} {d : PyData} {o : Bool} {ds : List (PyData × Bool)} : stA (i :: is) ((d, o) :: ds) (a :: l) = match gN i d o (a :: l) with
    | some e' => stA is ds e'
    | none => none := rfl
theorem r_sPar {a : Slot} {l : Nv} {is : List Nat} {fs : List EV} : sPar is fs (a :: l) = bnd (evO fs (a :: l)) fun p => kG (stA is p.1 p.2) := rfl
theorem r_sEx {a : Slot} {l : Nv} {f : EV} : sEx f (a :: l) = bnd (f (a :: l)) fun p => .ok (.nx p.2.2) := rfl
theorem r_sAug {a : Slot} {l : Nv} {i : Nat} {h : Op} {x : Arg} : sAug i h x (a :: l) = bnd (evA [.pk i, x] (a :: l)) fun p => kAu i (h p.1) p.2 := rfl
theorem r_sPut {a : Slot} {l : Nv} {i : Nat} {h : St3} {fv fk : EV} : sPut i h fv fk (a :: l) = bnd (fv (a :: l)) fun p => if (gt p.2.2 i).isSome then bnd (fk p.2.2) fun q => kP i h (gt q.2.2 i) q.1 p.1 q.2.2 else .bad := rfl
theorem r_sRet {a : Slot} {l : Nv} {f : EV} : sRet f (a :: l) = bnd (f (a :: l)) fun p => .ok (.rt p.1 p.2.1 p.2.2) := rfl
theorem r_sIf {a : Slot} {l : Nv} {t : TV} {x y : SV} : sIf t x y (a :: l) = bnd (t (a :: l)) fun p => if p.1 then x p.2 else y p.2 := rfl
theorem r_sPass {a : Slot} {l : Nv} : sPass (a :: l) = .ok (.nx (a :: l)) := rfl
theorem r_sCont {a : Slot} {l : Nv} : sCont (a :: l) = .ok (.ct (a :: l)) := rfl
theorem r_sRaise {a : Slot} {l : Nv} {c : String} {ok : PyData → Bool} {f : EV} : sRaise c ok f (a :: l) = bnd (f (a :: l)) fun p => if ok p.1 then .ex c p.1 p.2.2 else .bad := rfl
theorem r_eVs {a : Slot} {l : Nv} {h : Op} {fs : List EV} : eVs h fs (a :: l) = bnd (evV fs (a :: l)) fun p => kO (h p.1) p.2 := rfl
theorem r_itV {a : Slot} {l : Nv} {f : EV} : itV f (a :: l) = bnd (f (a :: l)) fun p => kI (itsOf p.1) p.2.2 := rfl
theorem r_itR1 {a : Slot} {l : Nv} {x : Arg} : itR1 x (a :: l) = bnd (evA [x] (a :: l)) fun p => match p.1 with
  | [.int j] => if lim62 j then .ok (rangeL 0 j.toNat, p.2) else .bad
  | _ => .bad := rfl
theorem r_itR2 {a : Slot} {l : Nv} {x y : Arg} : itR2 x y (a :: l) = bnd (evA [x, y] (a :: l)) fun p => match p.1 with
  | [.int i, .int j] => if lim62 i && lim62 j then .ok (rangeL i (j - i).toNat, p.2) else .bad
  | _ => .bad := rfl
theorem r_itE {a : Slot} {l : Nv} {f : EV} : itE f (a :: l) = bnd (f (a :: l)) fun p => match p.1 with
  | .list ds => .ok (enumFrom 0 ds, p.2.2)
  | .tuple ds => .ok (enumFrom 0 ds, p.2.2)
  | _ => .bad := rfl
theorem tyD_l {ds : List PyData} : tyD "list" (.list ds) = true := rfl
theorem tyD_d {ds : List (PyData × PyData)} : tyD "dict" (.dict ds) = true := rfl
theorem tyD_s {z : Str} : tyD "str" (.str z) = true := rfl
end Py
end
section
set_option Elab.async false
set_option linter.all false
set_option maxRecDepth 100000
/-! Values that the laws' defs hand about: lists and tuples of numbers; comprehensions, calls. -/
namespace Py
open PySem L2
def intsL (L : List Int) : PyData := .list (L.map .int)
def intsT (L : List Int) : PyData := .tuple (L.map .int)
def oI? (o : Option Int) : Slot := o.map fun i => (.int i, .fz)
@[simp] theorem blk_oI (o : Option Int) : blk (oI? o) = false := by cases o <;> rfl
@[simp] theorem calmS_oI (o : Option Int) : calmS (oI? o) = true := by cases o <;> rfl
@[simp] theorem tyD_ints {L : List Int} : tyD "list" (intsL L) = true := rfl
theorem mAppend_int {L : List Int} {x : Int} (h : L.length < 16777216) : mAppend (intsL L) [.int x] = some (intsL (L ++ [x]), .none) := by
  simp [mAppend, intsL, h]
theorem range_get {lo : Int} {n k : Nat} {d : PyData} (h : (rangeL lo n)[k]? = some d) : k < n ∧ d = .int (lo + k) := by
  unfold rangeL at h
  rw [List.getElem?_map] at h
  by_cases hk : k < n
  · rw [List.getElem?_range hk] at h
    exact ⟨hk, (Option.some.inj h).symm⟩
  · rw [List.getElem?_eq_none (by simpa using hk)] at h
    cases h
theorem ints_get {L : List Int} {k : Nat} {d : PyData} (h : (L.map PyData.int)[k]? = some d) : ∃ i, L[k]? = some i ∧ d = .int i := by
  rw [List.getElem?_map] at h
  obtain ⟨i, h1, h2⟩ := Option.map_eq_some_iff.mp h
  exact ⟨i, h1, h2.symm⟩
theorem itsOf_ints (L : List Int) : itsOf (intsL L) = some (L.map .int) := rfl
theorem itsOf_intsT (L : List Int) : itsOf (intsT L) = some (L.map .int) := rfl
theorem oLen_ints (L : List Int) : oLen [intsL L] = some (.int L.length, false) := by show oLen [.list _] = _; rw [oLen_list, List.length_map]
theorem oLen_intsT (L : List Int) : oLen [intsT L] = some (.int L.length, false) := by show oLen [.tuple _] = _; rw [oLen_tuple, List.length_map]
theorem oIx_intsL {ns : List Int} {i : Int} (h0 : 0 ≤ i) (h : i < ns.length) : oIx [intsL ns, .int i] = some (.int (ns.getD i.toNat 0), false) := oIx_ints h0 h
theorem oIx_intsT' {ns : List Int} {i : Int} (h0 : 0 ≤ i) (h : i < ns.length) : oIx [intsT ns, .int i] = some (.int (ns.getD i.toNat 0), false) := oIx_intsT h0 h
theorem oCat_ints {A B : List Int} (h : A.length + B.length ≤ 16777216) : oAdd [intsL A, intsL B] = some (intsL (A ++ B), true) := by
  have e : oCatL [intsL A, intsL B] = some (intsL (A ++ B), true) := by simp [oCatL, intsL, h]
  have e1 : oAddI [intsL A, intsL B] = none := rfl
  have e2 : oAddS [intsL A, intsL B] = none := rfl
  simp [oAdd, oOr, e, e1, e2]
theorem enum_ints {L : List Int} {k : Nat} {d : PyData} (h : (enumFrom 0 (L.map PyData.int))[k]? = some d) : ∃ i, L[k]? = some i ∧ d = .tuple [.int k, .int i] := by
  obtain ⟨x, h1, h2⟩ := enum_get _ _ _ _ h
  obtain ⟨i, h3, rfl⟩ := ints_get h1
  exact ⟨i, h3, by rw [h2, Nat.zero_add]; rfl⟩
/-- a comprehension -/
theorem wp_lc {it : IV} {vs : List Nat} {g : GV} {t : TV} {f : EV} {e e1 : Nv} {ds : List PyData} {Q : PyData × Bool × Nv → Prop} {E : String → PyData → Prop} (I : Nv → Prop) (keep : PyData → Bool) (h : PyData → PyData) (hi : it e = .ok (ds, e1)) (hc : calmAt e1 vs = true) (h0 : I (wipeE e1 vs)) (hl : ds.length ≤ 16777216)
    (hs : ∀ d ∈ ds, ∀ e, I e → ∃ e1 e2, g d false e = some e1 ∧ t e1 = .ok (keep d, e2) ∧ (keep d = false → I (wipeE e2 vs)) ∧ (keep d = true → ∃ o e3, f e2 = .ok (h d, o, e3) ∧ I (wipeE e3 vs)))
    (hq : ∀ e', I e' → Q (.list ((ds.filter keep).map h), true, backE e1 e' vs)) : wp (eLc it vs g t f e) Q E := by
  obtain ⟨e', h1, h2⟩ := lcL_ok I keep h ds [] (wipeE e1 vs) h0 (by simpa using hl) hs
  unfold eLc
  rw [hi, bnd_ok]
  simp only [hc, if_true, h1, bnd_ok, wp_ok, List.nil_append]
  exact hq e' h2
/-- no test, the slots as they stand -/
theorem lc_eq {it : IV} {vs : List Nat} {g : GV} {f : EV} {e e1 : Nv} {ds : List PyData} (h : PyData → PyData) (hi : it e = .ok (ds, e1)) (hc : calmAt e1 vs = true) (hl : ds.length ≤ 16777216)
    (hs : ∀ d ∈ ds, ∃ e2 o e3, g d false (wipeE e1 vs) = some e2 ∧ f e2 = .ok (h d, o, e3) ∧ wipeE e3 vs = wipeE e1 vs) (ht : ∀ e, tYs e = .ok (true, e) := by intro _; rfl) (hb : backE e1 (wipeE e1 vs) vs = e1) : eLc it vs g tYs f e = .ok (.list (ds.map h), true, e1) := by
  obtain ⟨e', h1, h2⟩ := lcL_ok (t := tYs) (f := f) (g := g) (vs := vs) (fun e => e = wipeE e1 vs) (fun _ => true) h ds [] (wipeE e1 vs) rfl (by simpa using hl) (fun d hd e he => by
    subst he
    obtain ⟨e2, o, e3, a, b, c⟩ := hs d hd
    exact ⟨e2, e2, a, rfl, fun z => (by cases z), fun _ => ⟨o, e3, b, c⟩⟩)
  subst h2
  unfold eLc
  rw [hi, bnd_ok]
  simp only [hc, if_true, h1, bnd_ok, List.nil_append]
  rw [hb, List.filter_eq_self.mpr (fun _ _ => rfl)]
theorem fn_run {n k : Nat} {body : SV} {ds : List PyData} (h : ds.length = k) : fn n k body ds = fin (body (ini ds n)) := by unfold fn; exact if_pos h
theorem fnI_run {n k : Nat} {body : SV} {ds : List PyData} (h : ds.length = k) : fnI n k body ds = finI (body (iniI ds n)) := by unfold fnI; exact if_pos h
end Py
end
section
set_option Elab.async false
set_option linter.all false
set_option maxRecDepth 100000
/-! What is equal, of plain data. -/
namespace Py
open PySem L2
open SeqAt (shaped)
/-- data without dicts, at most n deep -/
def Fl' (n : Nat) (d : PyData) : Prop := d.canLay0 = true ∧ d.depth ≤ n
theorem canAll {ds : List PyData} : PyData.canLayAll0 ds = true ↔ ∀ d, d ∈ ds → d.canLay0 = true := by
  induction ds with
  | nil => simp [PyData.canLayAll0]
  | cons d ds ih => simp [PyData.canLayAll0, ih]
theorem depAll {n : Nat} {ds : List PyData} : PyData.depthAll ds ≤ n ↔ ∀ d, d ∈ ds → d.depth ≤ n := by
  induction ds with
  | nil => simp [PyData.depthAll]
  | cons d ds ih => simp [PyData.depthAll, ← ih, Nat.max_le]
theorem Fl'.mono {n m : Nat} {d : PyData} (h : Fl' n d) (le : n ≤ m) : Fl' m d := ⟨h.1, Nat.le_trans h.2 le⟩
theorem fl_int {n : Nat} {i : Int} : Fl' n (.int i) := ⟨rfl, Nat.zero_le _⟩
theorem fl_bool {n : Nat} {b : Bool} : Fl' n (.bool b) := ⟨rfl, Nat.zero_le _⟩
theorem fl_none {n : Nat} : Fl' n .none := ⟨rfl, Nat.zero_le _⟩
theorem fl_list {n : Nat} {ds : List PyData} (h : ∀ d, d ∈ ds → Fl' n d) : Fl' (n + 1) (.list ds) :=
  ⟨by rw [PyData.canLay0]; exact canAll.mpr fun d hd => (h d hd).1, by rw [PyData.depth]; exact Nat.succ_le_succ (depAll.mpr fun d hd => (h d hd).2)⟩
theorem fl_tup {n : Nat} {ds : List PyData} (h : ∀ d, d ∈ ds → Fl' n d) : Fl' (n + 1) (.tuple ds) :=
  ⟨by rw [PyData.canLay0]; exact canAll.mpr fun d hd => (h d hd).1, by rw [PyData.depth]; exact Nat.succ_le_succ (depAll.mpr fun d hd => (h d hd).2)⟩
theorem fl_ints {n : Nat} {L : List Int} : Fl' (n + 1) (intsL L) := fl_list fun d hd => by obtain ⟨i, _, rfl⟩ := List.mem_map.mp hd; exact fl_int
theorem fl_intsT {n : Nat} {L : List Int} : Fl' (n + 1) (intsT L) := fl_tup fun d hd => by obtain ⟨i, _, rfl⟩ := List.mem_map.mp hd; exact fl_int
theorem Fl'.sh {n : Nat} {d : PyData} (h : Fl' n d) (hn : n ≤ 64) : shaped d = true := by
  unfold shaped
  rw [h.1, decide_eq_true (Nat.le_trans h.2 hn)]; rfl
theorem oEq_sh {d e : PyData} (hd : shaped d = true) (he : shaped e = true) : oEq [d, e] = some (.bool (PyData.eqv d e), false) := by
  show (if shaped d && shaped e then _ else _) = _
  rw [hd, he]; rfl
theorem oNe_sh {d e : PyData} (hd : shaped d = true) (he : shaped e = true) : oNe [d, e] = some (.bool (!PyData.eqv d e), false) := by
  show (if shaped d && shaped e then _ else _) = _
  rw [hd, he]; rfl
theorem Fl'.refl {n : Nat} {d : PyData} (h : Fl' n d) : PyData.eqv d d = true := PySem.SeqAt.eqv_refl d h.1
theorem oEq_self {n : Nat} {d : PyData} (h : Fl' n d) (hn : n ≤ 64) : oEq [d, d] = some (.bool true, false) := by rw [oEq_sh (h.sh hn) (h.sh hn), h.refl]
theorem oNe_self {n : Nat} {d : PyData} (h : Fl' n d) (hn : n ≤ 64) : oNe [d, d] = some (.bool false, false) := by rw [oNe_sh (h.sh hn) (h.sh hn), h.refl]; rfl
theorem oNe_ne {n : Nat} {d e : PyData} (h : Fl' n d) (q : d = e) (hn : n ≤ 64 := by decide) : oNe [d, e] = some (.bool false, false) := by subst q; exact oNe_self h hn
@[simp] theorem oNe_int (i j : Int) : oNe [.int i, .int j] = some (.bool (!decide (i = j)), false) := by
  rw [oNe_sh (fl_int.sh (Nat.zero_le _)) (fl_int.sh (Nat.zero_le _))]
  have e : (i == j) = decide (i = j) := by rw [Bool.eq_iff_iff]; simp
  simp [PyData.eqv, e]
@[simp] theorem oNe_bool (i j : Bool) : oNe [.bool i, .bool j] = some (.bool (!decide (i = j)), false) := by
  rw [oNe_sh (fl_bool.sh (Nat.zero_le _)) (fl_bool.sh (Nat.zero_le _))]
  cases i <;> cases j <;> rfl
@[simp] theorem oEq_bool (i j : Bool) : oEq [.bool i, .bool j] = some (.bool (decide (i = j)), false) := by
  rw [oEq_sh (fl_bool.sh (Nat.zero_le _)) (fl_bool.sh (Nat.zero_le _))]
  cases i <;> cases j <;> rfl
end Py
end
section
set_option Elab.async false
set_option linter.all false
/-! all()/any() of plain data; tries. -/
namespace Py
open PySem L2
def kB (x : Option Bool) (e : Nv) : R (PyData × Bool × Nv) := match x with
  | some b => .ok (.bool b, false, e)
  | none => .bad
@[simp] theorem kB_some (b : Bool) (e : Nv) : kB (some b) e = .ok (.bool b, false, e) := rfl
theorem r_eGen {s : Slot} {l : Nv} {all : Bool} {a : Arg} {cs : List Nat} {g : XV} : eGen all a cs g (s :: l) = bnd (evA (a :: cs.map .pk) (s :: l)) fun p => kB (gOut all g p.1) p.2 := rfl
theorem testsG_all {g : XV} {cds : List PyData} {p : PyData → Bool} : ∀ {ds : List PyData}, (∀ d, d ∈ ds → g (d :: cds) = some (.bool (p d))) → testsG g cds ds = some (ds.map p)
  | [], _ => rfl
  | d :: ds, h => by
    unfold testsG
    rw [h d List.mem_cons_self, testsG_all fun x hx => h x (List.mem_cons_of_mem _ hx)]
    rfl
theorem gOut_T {g : XV} {R : List Int} {p : Int → Bool} (h : ∀ i, i ∈ R → g [.int i] = some (.bool (p i))) : gOut true g [intsT R] = some (R.all p) := by
  have e : testsG g [] (R.map PyData.int) = some ((R.map PyData.int).map fun d => match d with | .int i => p i | _ => false) := testsG_all fun d hd => by
    obtain ⟨i, hi, rfl⟩ := List.mem_map.mp hd
    exact h i hi
  show (if (intsT R).canLay0 && true then (testsG g [] (R.map PyData.int)).map (fun bs => bs.all (fun b => b)) else none) = _
  rw [(fl_intsT (n := 0) (L := R)).1, e]
  simp [List.all_map]
  rfl
theorem sTry_ok {b : SV} {known : List String} {c' : String} {i : Nat} {h : PyData → Option (PyData × Bool)} {e : Nv} {f : Fl} (q : b e = .ok f) : sTry b known c' i h e = .ok f := by
  unfold sTry
  rw [q]
theorem sTry_ex {b : SV} {known : List String} {c' : String} {i : Nat} {h : PyData → Option (PyData × Bool)} {e e' : Nv} {d v : PyData} {o : Bool} (q : b e = .ex c' d e') (hk : known.contains c' = true) (hg : gt e' i = none) (hi : i < e'.length) (hh : h d = some (v, o)) : sTry b known c' i h e = .ok (.rt v o e') := by
  have hb : (gt e' i).isNone = true := by rw [hg]; rfl
  unfold sTry
  rw [q]
  simp only [hk, beq_self_eq_true, if_true, hb, decide_eq_true hi, Bool.and_self, hh]
/-- the way the body of a def that changes its first argument must end -/
def retI (Z : PyData → Bool → PyData → Prop) : Fl → Prop
  | .nx e => ∃ b, gt e 0 = some (b, .io) ∧ Z .none false b
  | .rt d o e => ∃ b, gt e 0 = some (b, .io) ∧ Z d o b
  | _ => False
theorem fnI_ret {n k : Nat} {body : SV} {ds : List PyData} {Z : PyData → Bool → PyData → Prop} (hk : ds.length = k) (h : wp (body (iniI ds n)) (retI Z) fun _ _ => False) : ∃ d o b, fnI n k body ds = .ret d o b ∧ Z d o b := by
  obtain ⟨f, h1, h2⟩ := wp_get h
  rw [fnI_run hk, h1]
  cases f with
  | nx e => obtain ⟨b, h3, h4⟩ := h2; exact ⟨.none, false, b, by show (match gt e 0 with | some (b, .io) => CR.ret .none false b | _ => .bad) = _; rw [h3], h4⟩
  | rt d o e => obtain ⟨b, h3, h4⟩ := h2; exact ⟨d, o, b, by show (match gt e 0 with | some (b, .io) => CR.ret d o b | _ => .bad) = _; rw [h3], h4⟩
  | ct e => exact h2.elim
  | bk e => exact h2.elim
/-- a comprehension, step by step: k members are done, acc is made -/
theorem lcL_inv {vs : List Nat} {g : GV} {t : TV} {f : EV} (P : Nat → List PyData → Nv → Prop) : ∀ (ds acc : List PyData) (e : Nv) (k0 : Nat), P k0 acc e → acc.length + ds.length ≤ 16777216 →
    (∀ (k : Nat) (d : PyData) (acc : List PyData) (e : Nv), ds[k]? = some d → P (k0 + k) acc e → ∃ e1 b e2, g d false e = some e1 ∧ t e1 = .ok (b, e2) ∧ (b = false → P (k0 + k + 1) acc (wipeE e2 vs)) ∧ (b = true → ∃ v o e3, f e2 = .ok (v, o, e3) ∧ P (k0 + k + 1) (acc ++ [v]) (wipeE e3 vs))) →
    ∃ acc' e', lcL vs g t f ds acc e = .ok (acc', e') ∧ P (k0 + ds.length) acc' e'
  | [], acc, e, k0, h0, _, _ => ⟨acc, e, rfl, h0⟩
  | d :: ds, acc, e, k0, h0, hl, hs => by
    rw [List.length_cons] at hl
    obtain ⟨e1, b, e2, h1, h2, h3, h4⟩ := hs 0 d acc e rfl h0
    have rest : ∀ acc2 e3, acc2.length + ds.length ≤ 16777216 → P (k0 + 1) acc2 e3 → ∃ acc' e', lcL vs g t f ds acc2 e3 = .ok (acc', e') ∧ P (k0 + (ds.length + 1)) acc' e' := fun acc2 e3 hl2 hp => by
      obtain ⟨acc', e', r1, r2⟩ := lcL_inv P ds acc2 e3 (k0 + 1) hp hl2 fun k d' acc3 e4 hd hp3 => by
        have z : k0 + 1 + k = k0 + (k + 1) := by omega
        rw [z] at hp3 ⊢
        exact hs (k + 1) d' acc3 e4 (by simpa using hd) hp3
      exact ⟨acc', e', r1, by rw [show k0 + (ds.length + 1) = k0 + 1 + ds.length by omega]; exact r2⟩
    unfold lcL
    rw [h1]
    dsimp only
    rw [h2, nox_ok, bnd_ok]
    cases b with
    | false => exact rest acc _ (by omega) (h3 rfl)
    | true =>
      obtain ⟨v, o, e3, r1, r2⟩ := h4 rfl
      simp only [if_true]
      rw [r1, nox_ok, bnd_ok]
      rw [if_pos (by omega)]
      exact rest _ _ (by rw [List.length_append, List.length_singleton]; omega) r2
theorem lc_inv {it : IV} {vs : List Nat} {g : GV} {t : TV} {f : EV} {e e1 : Nv} {ds : List PyData} (P : Nat → List PyData → Nv → Prop) (hi : it e = .ok (ds, e1)) (hc : calmAt e1 vs = true) (h0 : P 0 [] (wipeE e1 vs)) (hl : ds.length ≤ 16777216)
    (hs : ∀ (k : Nat) (d : PyData) (acc : List PyData) (e : Nv), ds[k]? = some d → P k acc e → ∃ e1 b e2, g d false e = some e1 ∧ t e1 = .ok (b, e2) ∧ (b = false → P (k + 1) acc (wipeE e2 vs)) ∧ (b = true → ∃ v o e3, f e2 = .ok (v, o, e3) ∧ P (k + 1) (acc ++ [v]) (wipeE e3 vs))) :
    ∃ acc e', eLc it vs g t f e = .ok (.list acc, true, backE e1 e' vs) ∧ P ds.length acc e' := by
  obtain ⟨acc, e', h1, h2⟩ := lcL_inv P ds [] (wipeE e1 vs) 0 h0 (by simpa using hl) fun k d acc e hd hp => by
    rw [Nat.zero_add] at hp ⊢
    exact hs k d acc e hd hp
  refine ⟨acc, e', ?_, by rw [Nat.zero_add] at h2; exact h2⟩
  unfold eLc
  rw [hi, bnd_ok, if_pos hc, h1, bnd_ok]
/-! lists of numbers -/
theorem eraseMap {α β : Type} (f : α → β) : ∀ (l : List α) (i : Nat), (l.map f).eraseIdx i = (l.eraseIdx i).map f
  | [], _ => rfl
  | _ :: _, 0 => rfl
  | a :: l, i + 1 => by
    show f a :: (l.map f).eraseIdx i = f a :: (l.eraseIdx i).map f
    rw [eraseMap f l i]
theorem mPopAt_ints {L : List Int} {i : Int} (h0 : 0 ≤ i) (h : i < L.length) (hl : L.length ≤ 1000000) : mPopAt (intsL L) [.int i] = some (intsL (L.eraseIdx i.toNat), .int (L[i.toNat]'(by omega))) := by
  have hk : i.toNat < L.length := by omega
  have e1 : seqIndex? i (L.map PyData.int).length = some i.toNat := by
    unfold seqIndex?
    rw [List.length_map]
    have hn : ¬ i < 0 := by omega
    simp only [hn, if_false, decide_eq_true h0, decide_eq_true h, Bool.and_self, if_true]
  have e2 : (L.map PyData.int)[i.toNat]? = some (.int (L[i.toNat]'hk)) := by rw [List.getElem?_map, List.getElem?_eq_getElem hk]; rfl
  have hb : -(2 ^ 63 : Int) ≤ i ∧ i < 2 ^ 63 := by
    have e : (2 : Int) ^ 63 = 9223372036854775808 := by decide
    rw [e]
    omega
  unfold intsL mPopAt
  dsimp only
  rw [if_pos hb, e1]
  dsimp only
  rw [e2]
  dsimp only
  rw [eraseMap]
theorem lim62_n {n : Nat} (h : n ≤ 1000000) : lim62 (n : Int) = true := by
  have e : (2 : Int) ^ 62 = 4611686018427387904 := by decide
  unfold lim62
  rw [e, decide_eq_true (by omega), decide_eq_true (by omega)]; rfl
end Py
end
section
set_option Elab.async false
set_option linter.all false
/-! Sorting plain data. -/
namespace Py
open PySem L2
open PySem.W (alike alikeAll dataLe dataLt)
theorem sortD_map {β : Type} (k : β → PyData) (L : List β) : sortD (L.map k) = (L.mergeSort (dataLe false k)).map k := (List.map_mergeSort (r := dataLe false k) (s := dataLe false id) (f := k) (fun a _ b _ => rfl)).symm
theorem sortD_ints (L : List Int) : sortD (L.map PyData.int) = (iSort L).map PyData.int := by
  have e := sortD_map PyData.int L
  have e2 : dataLe false PyData.int = fun a b => decide (a ≤ b) := PySem.W.dataLe_int (fun b : Int => b)
  rw [e2] at e
  exact e
theorem sortOk_ints (L : List Int) : sortOkB (L.map PyData.int) = true := by
  unfold sortOkB
  rw [Bool.and_eq_true, Bool.and_eq_true, Bool.and_eq_true, Bool.or_eq_true]
  refine ⟨⟨⟨?_, .inr ?_⟩, ?_⟩, ?_⟩
  · simp [alike]
  · simp [isNT]
  · exact canAll.mpr fun d hd => by obtain ⟨i, _, rfl⟩ := List.mem_map.mp hd; rfl
  · rw [List.all_eq_true]
    intro d hd
    obtain ⟨i, _, rfl⟩ := List.mem_map.mp hd
    rfl
theorem oSort_intsT (L : List Int) : oSort [intsT L] = some (intsL (iSort L), true) := by
  have e : oSortT [intsT L] = some (intsL (iSort L), true) := by
    show (if sortOkB (L.map PyData.int) then some (PyData.list (sortD (L.map PyData.int)), true) else none) = _
    rw [sortOk_ints, sortD_ints]; rfl
  have e1 : oSorted [intsT L] = none := rfl
  unfold oSort oOr
  rw [e1, e]
theorem oSort_intsL (L : List Int) : oSort [intsL L] = some (intsL (iSort L), true) := by
  have e : oSorted [intsL L] = some (intsL (iSort L), true) := by
    show (if sortOkB (L.map PyData.int) then some (PyData.list (sortD (L.map PyData.int)), true) else none) = _
    rw [sortOk_ints, sortD_ints]; rfl
  unfold oSort oOr
  rw [e]
/-- pairs of a number and what belongs to it -/
def prI (c : Int → Int) (h : Int) : PyData := .tuple [.int h, .int (c h)]
theorem iSort_le (L : List Int) : (iSort L).Pairwise (· ≤ ·) := by
  have := List.pairwise_mergeSort (le := fun (a b : Int) => decide (a ≤ b)) (fun a b c h1 h2 => by simp at h1 h2 ⊢; omega) (fun a b => by simp; omega) L
  exact this.imp fun h => by simpa using h
theorem iSort_ssort {K R : List Int} (hn : K.Nodup) (hm : ∀ x, x ∈ K ↔ x ∈ R) : iSort K = ssort R := by
  have p := List.mergeSort_perm K fun (a b : Int) => decide (a ≤ b)
  refine ssort_eq ?_ fun k => (p.mem_iff (a := k)).trans (hm k)
  have hn2 : (iSort K).Nodup := p.nodup_iff.mpr hn
  exact ((iSort_le K).and hn2).imp fun ⟨h1, h2⟩ => by
    have h2 : _ ≠ _ := h2
    omega
theorem sort_pr {K R : List Int} (c : Int → Int) (hn : K.Nodup) (hm : ∀ x, x ∈ K ↔ x ∈ R) : sortD (K.map (prI c)) = (ssort R).map (prI c) := by
  have e := sortD_map (prI c) K
  have e2 : dataLe false (prI c) = fun a b => decide (a ≤ b) := by
    refine (PySem.W.dataLe_ii (fun b : Int => b) c).trans ?_
    funext a b
    apply decide_eq_decide.mpr
    constructor
    · rintro (h | h) <;> omega
    · intro h
      rcases Int.lt_or_eq_of_le h with z | z
      · exact .inl z
      · subst z; exact .inr ⟨rfl, Int.le_refl _⟩
  rw [e2] at e
  rw [e]
  congr 1
  exact iSort_ssort hn hm
theorem sortOk_pr (c : Int → Int) (K : List Int) : sortOkB (K.map (prI c)) = true := by
  unfold sortOkB
  rw [Bool.and_eq_true, Bool.and_eq_true, Bool.and_eq_true, Bool.or_eq_true]
  refine ⟨⟨⟨?_, .inl ?_⟩, ?_⟩, ?_⟩
  · simp [prI, alike, alikeAll]
  · simp [isT1, prI]
  · exact canAll.mpr fun d hd => by obtain ⟨i, _, rfl⟩ := List.mem_map.mp hd; rfl
  · rw [List.all_eq_true]
    intro d hd
    obtain ⟨i, _, rfl⟩ := List.mem_map.mp hd
    simp [prI, PyData.depth, PyData.depthAll]
/-- equal lists -/
theorem eqvAll_ints : ∀ A B : List Int, PyData.eqvAll (A.map PyData.int) (B.map PyData.int) = decide (A = B)
  | [], [] => rfl
  | [], _ :: _ => rfl
  | _ :: _, [] => rfl
  | a :: A, b :: B => by
    rw [List.map_cons, List.map_cons, PyData.eqvAll, eqvAll_ints A B]
    have e : PyData.eqv (.int a) (.int b) = decide (a = b) := by
      have e : (a == b) = decide (a = b) := by rw [Bool.eq_iff_iff]; simp
      simp [PyData.eqv, e]
    rw [e]
    by_cases h1 : a = b <;> by_cases h2 : A = B <;> simp [h1, h2]
theorem oEq_intsL (A B : List Int) : oEq [intsL A, intsL B] = some (.bool (decide (A = B)), false) := by
  rw [oEq_sh (fl_ints.sh (by decide : 0 + 1 ≤ 64)) (fl_ints.sh (by decide : 0 + 1 ≤ 64))]
  rw [show PyData.eqv (intsL A) (intsL B) = PyData.eqvAll (A.map .int) (B.map .int) by rw [intsL, intsL, PyData.eqv], eqvAll_ints]
theorem oNe_intsL (A B : List Int) : oNe [intsL A, intsL B] = some (.bool (!decide (A = B)), false) := by
  rw [oNe_sh (fl_ints.sh (by decide : 0 + 1 ≤ 64)) (fl_ints.sh (by decide : 0 + 1 ≤ 64))]
  rw [show PyData.eqv (intsL A) (intsL B) = PyData.eqvAll (A.map .int) (B.map .int) by rw [intsL, intsL, PyData.eqv], eqvAll_ints]
theorem oEq_intsT (A B : List Int) : oEq [intsT A, intsT B] = some (.bool (decide (A = B)), false) := by
  rw [oEq_sh (fl_intsT.sh (by decide : 0 + 1 ≤ 64)) (fl_intsT.sh (by decide : 0 + 1 ≤ 64))]
  rw [show PyData.eqv (intsT A) (intsT B) = PyData.eqvAll (A.map .int) (B.map .int) by rw [intsT, intsT, PyData.eqv], eqvAll_ints]
theorem oNe_intsT (A B : List Int) : oNe [intsT A, intsT B] = some (.bool (!decide (A = B)), false) := by
  rw [oNe_sh (fl_intsT.sh (by decide : 0 + 1 ≤ 64)) (fl_intsT.sh (by decide : 0 + 1 ≤ 64))]
  rw [show PyData.eqv (intsT A) (intsT B) = PyData.eqvAll (A.map .int) (B.map .int) by rw [intsT, intsT, PyData.eqv], eqvAll_ints]
end Py
end
section
set_option Elab.async false
set_option linter.all false
/-! Comprehensions over numbers; membership. -/
namespace Py
open PySem L2
theorem rangeL_rng (n : Nat) : rangeL 0 n = (rngI n).map PyData.int := by
  unfold rangeL rngI
  rw [List.map_map]
  apply List.map_congr_left
  intro k _
  simp
/-- over numbers, no test -/
theorem lc_ints {it : IV} {vs : List Nat} {g : GV} {f : EV} {e e1 : Nv} {L : List Int} (F : Int → PyData) (hi : it e = .ok (L.map PyData.int, e1)) (hc : calmAt e1 vs = true) (hl : L.length ≤ 16777216)
    (hs : ∀ i, i ∈ L → ∃ e2 o e3, g (.int i) false (wipeE e1 vs) = some e2 ∧ f e2 = .ok (F i, o, e3) ∧ wipeE e3 vs = wipeE e1 vs) (hb : backE e1 (wipeE e1 vs) vs = e1) : eLc it vs g tYs f e = .ok (.list (L.map F), true, e1) := by
  have := lc_eq (it := it) (g := g) (f := f) (fun d => match d with | .int i => F i | _ => .none) hi hc (by rw [List.length_map]; exact hl) (fun d hd => by
    obtain ⟨i, h1, rfl⟩ := List.mem_map.mp hd
    exact hs i h1) (by intro _; rfl) hb
  rw [this, List.map_map]
  rfl
/-- over numbers, with a test -/
theorem lc_intsF {it : IV} {vs : List Nat} {g : GV} {t : TV} {f : EV} {e e1 : Nv} {L : List Int} (F : Int → PyData) (keep : Int → Bool) (hi : it e = .ok (L.map PyData.int, e1)) (hc : calmAt e1 vs = true) (hl : L.length ≤ 16777216)
    (hs : ∀ i, i ∈ L → ∃ e2, g (.int i) false (wipeE e1 vs) = some e2 ∧ t e2 = .ok (keep i, e2) ∧ (∃ o e3, f e2 = .ok (F i, o, e3) ∧ wipeE e3 vs = wipeE e1 vs) ∧ wipeE e2 vs = wipeE e1 vs) (hb : backE e1 (wipeE e1 vs) vs = e1) : eLc it vs g t f e = .ok (.list ((L.filter keep).map F), true, e1) := by
  obtain ⟨e', h1, h2⟩ := lcL_ok (t := t) (f := f) (g := g) (vs := vs) (fun e => e = wipeE e1 vs) (fun d => match d with | .int i => keep i | _ => false) (fun d => match d with | .int i => F i | _ => .none) (L.map PyData.int) [] (wipeE e1 vs) rfl (by simpa using hl) (fun d hd e he => by
    subst he
    obtain ⟨i, h1, rfl⟩ := List.mem_map.mp hd
    obtain ⟨e2, a, b, ⟨o, e3, c1, c2⟩, d⟩ := hs i h1
    exact ⟨e2, e2, a, b, fun _ => d, fun _ => ⟨o, e3, c1, c2⟩⟩)
  subst h2
  unfold eLc
  rw [hi, bnd_ok]
  simp only [hc, if_true, h1, bnd_ok, List.nil_append]
  rw [hb, List.filter_map, List.map_map]
  rfl
theorem mem_ints {L : List Int} {x : Int} : (L.map PyData.int).any (fun d => PyData.eqv d (.int x)) = decide (x ∈ L) := by
  induction L with
  | nil => rfl
  | cons a L ih =>
    rw [List.map_cons, List.any_cons, ih]
    have e : PyData.eqv (.int a) (.int x) = decide (x = a) := by
      have e : (a == x) = decide (x = a) := by rw [Bool.eq_iff_iff]; simp only [beq_iff_eq, decide_eq_true_iff]; exact eq_comm
      simp [PyData.eqv, e]
    rw [e]
    by_cases h1 : x = a <;> by_cases h2 : x ∈ L <;> simp [h1, h2]
theorem oIn_ints (L : List Int) (x : Int) : oIn [.int x, intsL L] = some (.bool (decide (x ∈ L)), false) := by
  have e : oInL [.int x, intsL L] = some (.bool (decide (x ∈ L)), false) := by
    show (if SeqAt.shaped (.int x) && SeqAt.shaped (intsL L) then some (PyData.bool ((L.map PyData.int).any fun z => PyData.eqv z (.int x)), false) else none) = _
    rw [(fl_int (n := 0)).sh (by decide), (fl_ints (n := 0) (L := L)).sh (by decide), mem_ints]; rfl
  unfold oIn oOr
  rw [e]
theorem oSSet_ok {R : List Int} (h : R.length < 63) : oSSet [intsT R] = some (intsL (ssort R), true) := by
  show (match ints? (R.map PyData.int) with
    | some ns => if ns.length < 63 then some (PyData.list ((ssort ns).map PyData.int), true) else none
    | none => none) = _
  rw [ints?_map]
  exact if_pos h
theorem eraseDups_len : ∀ (n : Nat) (l : List Int), l.length ≤ n → l.eraseDups.length ≤ l.length
  | _, [], _ => Nat.le_refl _
  | n + 1, a :: l, h => by
    rw [List.eraseDups_cons, List.length_cons, List.length_cons]
    have h1 := List.length_filter_le (fun b => !b == a) l
    have := eraseDups_len n (l.filter fun b => !b == a) (by rw [List.length_cons] at h; omega)
    omega
theorem ssort_len (R : List Int) : (ssort R).length ≤ R.length := by
  unfold ssort
  rw [List.length_mergeSort]
  exact eraseDups_len _ R (Nat.le_refl _)
end Py
end
section
set_option Elab.async false
set_option linter.all false
set_option maxRecDepth 100000
set_option maxHeartbeats 4000000
namespace Py
open PySem PySem.Spec PyProof.Rows L2

def top (i : Nat) : Stmt := PySem.Challenge.pw_evercaught_k01_rows_that_can_be_juggled.main.body.getD i (.Pass ⟨0, 0, 0, 0⟩)
section
variable {P : Program} {w : World} {K : Fr} {mg : Str → Option Value} {base : Heap} {T : List Addr}

def blts : List Str := ["bool", "len", "range", "sum", "max", "min", "abs", "int", "str", "sorted", "list", "tuple", "set", "isinstance", "enumerate", "zip", "all", "any", "dict", "super", "ValueError"]
/-! is_row -/
def s_is_row : List SV := [sIf (tOr (tNo (tAr (.ev (eOp (oIsa "tuple") [.pk 0])))) (tNo (tOf (eCh oLe oLe (eC (.int 1)) (eOp oLen [.pk 0]) (eC (.int 30)))))) (sSeq [sRet (eC (.bool false))]) (sSeq []), sRet (eGen true (.pk 0) [] (xAnd (xIsa "int" (xN 0)) (xAnd (xNot (xIsa "bool" (xN 0))) (xCh cLe cLe (xC (.int 0)) (xN 0) (xC (.int 35))))))]
def m_is_row : FnV := fn 2 1 (sSeq s_is_row)
def n_is_row : List Str := ["value", "one"]
def p_is_row : List Str := ["value"]
theorem f_is_row : FnScope n_is_row p_is_row (defScope (top 6)) := ⟨rfl, rfl, rfl, by decide, rfl, by decide, by decide⟩
theorem w_is_row (F : ∀ x, x ∈ blts → mg x = none) (c_MOST_HEIGHT : ∃ t, mg "MOST_HEIGHT" = some (.int 35 t)) (c_MOST_LENGTH : ∃ t, mg "MOST_LENGTH" = some (.int 30 t)) {qual : Str} {f : Addr} {c Pt : Addr} (TB : GxR.TabB base mg c Pt) (hPT : Pt ∈ T) (A : Around) (outer : List Env) (s : Shared) (H : Hp) (E : XK) (hr : Room 0 (A.deeper (envOfC qual (defScope (top 6)) s.heap.objs.size f (.ref c)))) :
    SSs (DCx P w K mg base n_is_row qual (defScope (top 6)) f (.ref c) A outer s H E) T (WD E) (defBody (top 6)) s_is_row :=
  have g := go_def (P := P) (w := w) (K := K) (mg := mg) (base := base) (outer := outer) (H := H) (E := E) f_is_row hr
  (sss_cons (ss_if (st_w (sw_or (st_no (st_ar (sa_ev (se_isa rfl (F "isinstance" (by decide)) rfl (F "tuple" (by decide)) (by decide +kernel) (sa_pk (i := 0) rfl (by first | exact .inl rfl | exact .inr (.inl rfl) | exact .inr (.inr rfl))))))) (sw_or1 (st_no (st_ch rc_le rc_le d_le d_le se_int (se_len rfl (F "len" (by decide)) (sa_pk (i := 0) rfl (by first | exact .inl rfl | exact .inr (.inl rfl) | exact .inr (.inr rfl)))) (se_gi rfl c_MOST_LENGTH))))))
    (sss_cons (ss_ret se_bl)
    sss_nil)
    sss_nil)
    (sss_cons (ss_ret (se_genG (all := true) [] [] g rfl (F "all" (by decide)) PyProof.Rows.boot_all TB hPT rfl rfl (sa_pk (i := 0) rfl (by first | exact .inl rfl | exact .inr (.inl rfl) | exact .inr (.inr rfl))) rfl (fun cenv hz => (re_and (re_isa (kd hz rfl) (F "isinstance" (by decide)) (kd hz rfl) (F "int" (by decide)) (by decide +kernel) (re_name (i := 0) rfl)) (re_and (re_not (re_isa (kd hz rfl) (F "isinstance" (by decide)) (kd hz rfl) (F "bool" (by decide)) (by decide +kernel) (re_name (i := 0) rfl))) (re_one (re_chain re_int (re_name (i := 0) rfl) (re_gi (kd hz rfl) c_MOST_HEIGHT) rg_le rg_le)))))))
    sss_nil))
/-! landings -/
def s_landings : List SV := [sRet (eLc (itE (eV 0)) [1, 2] (gT [gN 1, gN 2]) (tYs) (eOp oMod [.ev (eOp oAdd [.pk 1, .pk 2]), .ev (eOp oLen [.pk 0])]))]
def m_landings : FnV := fn 3 1 (sSeq s_landings)
def n_landings : List Str := ["row", "beat", "height"]
def p_landings : List Str := ["row"]
theorem f_landings : FnScope n_landings p_landings (defScope (top 7)) := ⟨rfl, rfl, rfl, by decide, rfl, by decide, by decide⟩
theorem w_landings (F : ∀ x, x ∈ blts → mg x = none) {qual : Str} {f : Addr} (cdv : Value) (A : Around) (outer : List Env) (s : Shared) (H : Hp) (E : XK) (hr : Room 0 (A.deeper (envOfC qual (defScope (top 7)) s.heap.objs.size f cdv))) :
    SSs (DCx P w K mg base n_landings qual (defScope (top 7)) f cdv A outer s H E) T (WD E) (defBody (top 7)) s_landings :=
  have g := go_def (P := P) (w := w) (K := K) (mg := mg) (base := base) (outer := outer) (H := H) (E := E) f_landings hr
  (sss_cons (ss_ret (se_lcG (own := [("beat", 1), ("height", 2)]) g (si_e rfl (F "enumerate" (by decide)) (se_v (i := 0) rfl (by first | exact .inl rfl | exact .inr (.inl rfl) | exact .inr (.inr rfl)))) rfl (fun zs zH zC zl zf g => (sgw_t g.cm (sgsw_cons (sgw_n (by decide) g.nd rfl (by first | exact .inl rfl | exact .inr rfl)) (sgsw_cons (sgw_n (by decide) g.nd rfl (by first | exact .inl rfl | exact .inr rfl)) sgsw_nil)))) (fun zs zH zC zl zf g => pts_no) (fun zs zH zC zl zf g => (se_mod (sa_ev (se_add (sa_pk (i := 1) rfl (by first | exact .inl rfl | exact .inr (.inl rfl) | exact .inr (.inr rfl))) (sa_pk (i := 2) rfl (by first | exact .inl rfl | exact .inr (.inl rfl) | exact .inr (.inr rfl))))) (sa_ev (se_len rfl (F "len" (by decide)) (sa_pk (i := 0) rfl (by first | exact .inl rfl | exact .inr (.inl rfl) | exact .inr (.inr rfl)))))))))
    sss_nil)
/-! clash -/
def s_clash : List SV := [sAsg (gN 1) (eNewK), sFor (itE (eCall m_landings [eV 0])) (gT [gN 2, gN 3]) (sSeq [sIf (tOf (eOp oIn [.pk 3, .pk 1])) (sSeq [sRet (eVs oTup [eOp oIx [.pk 1, .pk 3], eV 2])]) (sSeq []), sPut 1 uSet (eV 2) (eV 3)]), sRet (eC .none)]
def m_clash : FnV := fn 4 1 (sSeq s_clash)
def n_clash : List Str := ["row", "seen", "beat", "place"]
def p_clash : List Str := ["row"]
theorem f_clash : FnScope n_clash p_clash (defScope (top 8)) := ⟨rfl, rfl, rfl, by decide, rfl, by decide, by decide⟩
theorem w_clash (F : ∀ x, x ∈ blts → mg x = none) (q_landings : CalP P w K mg base 1 "landings" 1 (SpV K T m_landings)) {qual : Str} {f : Addr} (cdv : Value) (A : Around) (outer : List Env) (s : Shared) (H : Hp) (E : XK) (hr : Room 1 (A.deeper (envOfC qual (defScope (top 8)) s.heap.objs.size f cdv))) :
    SSs (DCx P w K mg base n_clash qual (defScope (top 8)) f cdv A outer s H E) T (WD E) (defBody (top 8)) s_clash :=
  have g := go_def (P := P) (w := w) (K := K) (mg := mg) (base := base) (outer := outer) (H := H) (E := E) f_clash hr
  (sss_cons (ss_asg se_newK (sg_n g.nd rfl (by first | exact .inl rfl | exact .inr rfl)))
    (sss_cons (ss_for po_def g.cm (si_e rfl (F "enumerate" (by decide)) (se_call ⟨q_landings⟩ (g.hr.mono (by decide)) rfl g.tk (svs_cons (se_v (i := 0) rfl (by first | exact .inl rfl | exact .inr (.inl rfl) | exact .inr (.inr rfl))) svs_nil))) (sg_t g.cm (sgs_cons (sg_n g.nd rfl (by first | exact .inl rfl | exact .inr rfl)) (sgs_cons (sg_n g.nd rfl (by first | exact .inl rfl | exact .inr rfl)) sgs_nil)))
    (sss_cons (ss_if (st_cmp (rc_in g) d_in (sa_pk (i := 3) rfl (by first | exact .inl rfl | exact .inr (.inl rfl) | exact .inr (.inr rfl))) (sa_pk (i := 1) rfl (by first | exact .inl rfl | exact .inr (.inl rfl) | exact .inr (.inr rfl))) rfl)
    (sss_cons (ss_ret (se_tup (svs_cons (se_item g (sa_pk (i := 1) rfl (by first | exact .inl rfl | exact .inr (.inl rfl) | exact .inr (.inr rfl))) (sa_pk (i := 3) rfl (by first | exact .inl rfl | exact .inr (.inl rfl) | exact .inr (.inr rfl)))) (svs_cons (se_v (i := 2) rfl (by first | exact .inl rfl | exact .inr (.inl rfl) | exact .inr (.inr rfl))) svs_nil))))
    sss_nil)
    sss_nil)
    (sss_cons (ss_put (i := 1) rfl (by first | exact .inl rfl | exact .inr (.inl rfl) | exact .inr (.inr rfl)) (se_v (i := 2) rfl (by first | exact .inl rfl | exact .inr (.inl rfl) | exact .inr (.inr rfl))) (se_v (i := 3) rfl (by first | exact .inl rfl | exact .inr (.inl rfl) | exact .inr (.inr rfl))) (ps_set g) u_set)
    sss_nil)))
    (sss_cons (ss_ret se_non)
    sss_nil)))
/-! can_be_juggled -/
def s_can_be_juggled : List SV := [sRet (eOp oIs [.ev (eCall m_clash [eV 0]), .ev (eC .none)])]
def m_can_be_juggled : FnV := fn 1 1 (sSeq s_can_be_juggled)
def n_can_be_juggled : List Str := ["row"]
def p_can_be_juggled : List Str := ["row"]
theorem f_can_be_juggled : FnScope n_can_be_juggled p_can_be_juggled (defScope (top 9)) := ⟨rfl, rfl, rfl, by decide, rfl, by decide, by decide⟩
theorem w_can_be_juggled (q_clash : CalP P w K mg base 2 "clash" 1 (SpV K T m_clash)) {qual : Str} {f : Addr} (cdv : Value) (A : Around) (outer : List Env) (s : Shared) (H : Hp) (E : XK) (hr : Room 2 (A.deeper (envOfC qual (defScope (top 9)) s.heap.objs.size f cdv))) :
    SSs (DCx P w K mg base n_can_be_juggled qual (defScope (top 9)) f cdv A outer s H E) T (WD E) (defBody (top 9)) s_can_be_juggled :=
  have g := go_def (P := P) (w := w) (K := K) (mg := mg) (base := base) (outer := outer) (H := H) (E := E) f_can_be_juggled hr
  (sss_cons (ss_ret (se_cmp rc_is d_is (sa_ev (se_call ⟨q_clash⟩ (g.hr.mono (by decide)) rfl g.tk (svs_cons (se_v (i := 0) rfl (by first | exact .inl rfl | exact .inr (.inl rfl) | exact .inr (.inr rfl))) svs_nil))) (sa_ev se_non) rfl))
    sss_nil)
/-! check_row -/
def s_check_row : List SV := [sAsg (gN 1) (eCall m_clash [eV 0]), sIf (tOf (eOp oIsNot [.pk 1, .ev (eC .none)])) (sSeq [sRaise "Dropped" okI (eOp oIx [.pk 1, .ev (eC (.int 1))])]) (sSeq [])]
def m_check_row : FnV := fn 2 1 (sSeq s_check_row)
def n_check_row : List Str := ["row", "pair"]
def p_check_row : List Str := ["row"]
theorem f_check_row : FnScope n_check_row p_check_row (defScope (top 10)) := ⟨rfl, rfl, rfl, by decide, rfl, by decide, by decide⟩
theorem w_check_row (q_clash : CalP P w K mg base 2 "clash" 1 (SpV K T m_clash)) (x_Dropped : ExcI K P w mg "Dropped" okI) {qual : Str} {f : Addr} (cdv : Value) (A : Around) (outer : List Env) (s : Shared) (H : Hp) (E : XK) (hr : Room 2 (A.deeper (envOfC qual (defScope (top 10)) s.heap.objs.size f cdv))) :
    SSs (DCx P w K mg base n_check_row qual (defScope (top 10)) f cdv A outer s H E) T (WD E) (defBody (top 10)) s_check_row :=
  have g := go_def (P := P) (w := w) (K := K) (mg := mg) (base := base) (outer := outer) (H := H) (E := E) f_check_row hr
  (sss_cons (ss_asg (se_call ⟨q_clash⟩ (g.hr.mono (by decide)) rfl g.tk (svs_cons (se_v (i := 0) rfl (by first | exact .inl rfl | exact .inr (.inl rfl) | exact .inr (.inr rfl))) svs_nil)) (sg_n g.nd rfl (by first | exact .inl rfl | exact .inr rfl)))
    (sss_cons (ss_if (st_cmp rc_isnot d_isnot (sa_pk (i := 1) rfl (by first | exact .inl rfl | exact .inr (.inl rfl) | exact .inr (.inr rfl))) (sa_ev se_non) rfl)
    (sss_cons (ss_raiseI (c := "Dropped") g x_Dropped rfl (se_item g (sa_pk (i := 1) rfl (by first | exact .inl rfl | exact .inr (.inl rfl) | exact .inr (.inr rfl))) (sa_ev se_int)))
    sss_nil)
    sss_nil)
    sss_nil))
/-! balls -/
def s_balls : List SV := [sEx (eCall m_check_row [eV 0]), sRet (eOp oDiv [.ev (eOp oSum [.pk 0]), .ev (eOp oLen [.pk 0])])]
def m_balls : FnV := fn 1 1 (sSeq s_balls)
def n_balls : List Str := ["row"]
def p_balls : List Str := ["row"]
theorem f_balls : FnScope n_balls p_balls (defScope (top 11)) := ⟨rfl, rfl, rfl, by decide, rfl, by decide, by decide⟩
theorem w_balls (F : ∀ x, x ∈ blts → mg x = none) (q_check_row : CalP P w K mg base 3 "check_row" 1 (SpV K T m_check_row)) {qual : Str} {f : Addr} (cdv : Value) (A : Around) (outer : List Env) (s : Shared) (H : Hp) (E : XK) (hr : Room 3 (A.deeper (envOfC qual (defScope (top 11)) s.heap.objs.size f cdv))) :
    SSs (DCx P w K mg base n_balls qual (defScope (top 11)) f cdv A outer s H E) T (WD E) (defBody (top 11)) s_balls :=
  have g := go_def (P := P) (w := w) (K := K) (mg := mg) (base := base) (outer := outer) (H := H) (E := E) f_balls hr
  (sss_cons (ss_ex (se_call ⟨q_check_row⟩ (g.hr.mono (by decide)) rfl g.tk (svs_cons (se_v (i := 0) rfl (by first | exact .inl rfl | exact .inr (.inl rfl) | exact .inr (.inr rfl))) svs_nil)))
    (sss_cons (ss_ret (se_div (sa_ev (se_sum g rfl (F "sum" (by decide)) (sa_pk (i := 0) rfl (by first | exact .inl rfl | exact .inr (.inl rfl) | exact .inr (.inr rfl))))) (sa_ev (se_len rfl (F "len" (by decide)) (sa_pk (i := 0) rfl (by first | exact .inl rfl | exact .inr (.inl rfl) | exact .inr (.inr rfl)))))))
    sss_nil))
/-! moves -/
def s_moves : List SV := [sEx (eCall m_check_row [eV 0]), sAsg (gN 1) (eOp oMul [.ev (eVs oLst [eC (.int 0)]), .ev (eOp oLen [.pk 0])]), sFor (itE (eCall m_landings [eV 0])) (gT [gN 2, gN 3]) (sSeq [sPut 1 uSet (eV 2) (eV 3)]), sRet (eM 1)]
def m_moves : FnV := fn 4 1 (sSeq s_moves)
def n_moves : List Str := ["row", "found", "beat", "place"]
def p_moves : List Str := ["row"]
theorem f_moves : FnScope n_moves p_moves (defScope (top 12)) := ⟨rfl, rfl, rfl, by decide, rfl, by decide, by decide⟩
theorem w_moves (F : ∀ x, x ∈ blts → mg x = none) (q_check_row : CalP P w K mg base 3 "check_row" 1 (SpV K T m_check_row)) (q_landings : CalP P w K mg base 1 "landings" 1 (SpV K T m_landings)) {qual : Str} {f : Addr} (cdv : Value) (A : Around) (outer : List Env) (s : Shared) (H : Hp) (E : XK) (hr : Room 3 (A.deeper (envOfC qual (defScope (top 12)) s.heap.objs.size f cdv))) :
    SSs (DCx P w K mg base n_moves qual (defScope (top 12)) f cdv A outer s H E) T (WD E) (defBody (top 12)) s_moves :=
  have g := go_def (P := P) (w := w) (K := K) (mg := mg) (base := base) (outer := outer) (H := H) (E := E) f_moves hr
  (sss_cons (ss_ex (se_call ⟨q_check_row⟩ (g.hr.mono (by decide)) rfl g.tk (svs_cons (se_v (i := 0) rfl (by first | exact .inl rfl | exact .inr (.inl rfl) | exact .inr (.inr rfl))) svs_nil)))
    (sss_cons (ss_asg (se_mul (sa_ev (se_lst (svs_cons se_int svs_nil))) (sa_ev (se_len rfl (F "len" (by decide)) (sa_pk (i := 0) rfl (by first | exact .inl rfl | exact .inr (.inl rfl) | exact .inr (.inr rfl)))))) (sg_n g.nd rfl (by first | exact .inl rfl | exact .inr rfl)))
    (sss_cons (ss_for po_def g.cm (si_e rfl (F "enumerate" (by decide)) (se_call ⟨q_landings⟩ (g.hr.mono (by decide)) rfl g.tk (svs_cons (se_v (i := 0) rfl (by first | exact .inl rfl | exact .inr (.inl rfl) | exact .inr (.inr rfl))) svs_nil))) (sg_t g.cm (sgs_cons (sg_n g.nd rfl (by first | exact .inl rfl | exact .inr rfl)) (sgs_cons (sg_n g.nd rfl (by first | exact .inl rfl | exact .inr rfl)) sgs_nil)))
    (sss_cons (ss_put (i := 1) rfl (by first | exact .inl rfl | exact .inr (.inl rfl) | exact .inr (.inr rfl)) (se_v (i := 2) rfl (by first | exact .inl rfl | exact .inr (.inl rfl) | exact .inr (.inr rfl))) (se_v (i := 3) rfl (by first | exact .inl rfl | exact .inr (.inl rfl) | exact .inr (.inr rfl))) (ps_set g) u_set)
    sss_nil))
    (sss_cons (ss_ret (se_m (i := 1) rfl (by first | exact .inl rfl | exact .inr (.inl rfl) | exact .inr (.inr rfl))))
    sss_nil))))
/-! height_at -/
def s_height_at : List SV := [sRet (eOp oIx [.pk 0, .ev (eOp oMod [.pk 1, .ev (eOp oLen [.pk 0])])])]
def m_height_at : FnV := fn 2 2 (sSeq s_height_at)
def n_height_at : List Str := ["row", "beat"]
def p_height_at : List Str := ["row", "beat"]
theorem f_height_at : FnScope n_height_at p_height_at (defScope (top 13)) := ⟨rfl, rfl, rfl, by decide, rfl, by decide, by decide⟩
theorem w_height_at (F : ∀ x, x ∈ blts → mg x = none) {qual : Str} {f : Addr} (cdv : Value) (A : Around) (outer : List Env) (s : Shared) (H : Hp) (E : XK) (hr : Room 0 (A.deeper (envOfC qual (defScope (top 13)) s.heap.objs.size f cdv))) :
    SSs (DCx P w K mg base n_height_at qual (defScope (top 13)) f cdv A outer s H E) T (WD E) (defBody (top 13)) s_height_at :=
  have g := go_def (P := P) (w := w) (K := K) (mg := mg) (base := base) (outer := outer) (H := H) (E := E) f_height_at hr
  (sss_cons (ss_ret (se_item g (sa_pk (i := 0) rfl (by first | exact .inl rfl | exact .inr (.inl rfl) | exact .inr (.inr rfl))) (sa_ev (se_mod (sa_pk (i := 1) rfl (by first | exact .inl rfl | exact .inr (.inl rfl) | exact .inr (.inr rfl))) (sa_ev (se_len rfl (F "len" (by decide)) (sa_pk (i := 0) rfl (by first | exact .inl rfl | exact .inr (.inl rfl) | exact .inr (.inr rfl)))))))))
    sss_nil)
/-! lands -/
def s_lands : List SV := [sRet (eOp oAdd [.pk 1, .ev (eCall m_height_at [eV 0, eV 1])])]
def m_lands : FnV := fn 2 2 (sSeq s_lands)
def n_lands : List Str := ["row", "beat"]
def p_lands : List Str := ["row", "beat"]
theorem f_lands : FnScope n_lands p_lands (defScope (top 14)) := ⟨rfl, rfl, rfl, by decide, rfl, by decide, by decide⟩
theorem w_lands (q_height_at : CalP P w K mg base 1 "height_at" 2 (SpV K T m_height_at)) {qual : Str} {f : Addr} (cdv : Value) (A : Around) (outer : List Env) (s : Shared) (H : Hp) (E : XK) (hr : Room 1 (A.deeper (envOfC qual (defScope (top 14)) s.heap.objs.size f cdv))) :
    SSs (DCx P w K mg base n_lands qual (defScope (top 14)) f cdv A outer s H E) T (WD E) (defBody (top 14)) s_lands :=
  have g := go_def (P := P) (w := w) (K := K) (mg := mg) (base := base) (outer := outer) (H := H) (E := E) f_lands hr
  (sss_cons (ss_ret (se_add (sa_pk (i := 1) rfl (by first | exact .inl rfl | exact .inr (.inl rfl) | exact .inr (.inr rfl))) (sa_ev (se_call ⟨q_height_at⟩ (g.hr.mono (by decide)) rfl g.tk (svs_cons (se_v (i := 0) rfl (by first | exact .inl rfl | exact .inr (.inl rfl) | exact .inr (.inr rfl))) (svs_cons (se_v (i := 1) rfl (by first | exact .inl rfl | exact .inr (.inl rfl) | exact .inr (.inr rfl))) svs_nil))))))
    sss_nil)
/-! thrown_at -/
def s_thrown_at : List SV := [sAsg (gN 2) (eOp oMod [.pk 1, .ev (eOp oLen [.pk 0])]), sAsg (gN 3) (eOp oIx [.ev (eCall m_moves [eV 0]), .pk 2]), sAsg (gN 4) (eOp oIx [.pk 0, .pk 3]), sRet (eOp oSub [.pk 1, .pk 4])]
def m_thrown_at : FnV := fn 5 2 (sSeq s_thrown_at)
def n_thrown_at : List Str := ["row", "beat", "place", "source", "height"]
def p_thrown_at : List Str := ["row", "beat"]
theorem f_thrown_at : FnScope n_thrown_at p_thrown_at (defScope (top 15)) := ⟨rfl, rfl, rfl, by decide, rfl, by decide, by decide⟩
theorem w_thrown_at (F : ∀ x, x ∈ blts → mg x = none) (q_moves : CalP P w K mg base 4 "moves" 1 (SpV K T m_moves)) {qual : Str} {f : Addr} (cdv : Value) (A : Around) (outer : List Env) (s : Shared) (H : Hp) (E : XK) (hr : Room 4 (A.deeper (envOfC qual (defScope (top 15)) s.heap.objs.size f cdv))) :
    SSs (DCx P w K mg base n_thrown_at qual (defScope (top 15)) f cdv A outer s H E) T (WD E) (defBody (top 15)) s_thrown_at :=
  have g := go_def (P := P) (w := w) (K := K) (mg := mg) (base := base) (outer := outer) (H := H) (E := E) f_thrown_at hr
  (sss_cons (ss_asg (se_mod (sa_pk (i := 1) rfl (by first | exact .inl rfl | exact .inr (.inl rfl) | exact .inr (.inr rfl))) (sa_ev (se_len rfl (F "len" (by decide)) (sa_pk (i := 0) rfl (by first | exact .inl rfl | exact .inr (.inl rfl) | exact .inr (.inr rfl)))))) (sg_n g.nd rfl (by first | exact .inl rfl | exact .inr rfl)))
    (sss_cons (ss_asg (se_item g (sa_ev (se_call ⟨q_moves⟩ (g.hr.mono (by decide)) rfl g.tk (svs_cons (se_v (i := 0) rfl (by first | exact .inl rfl | exact .inr (.inl rfl) | exact .inr (.inr rfl))) svs_nil))) (sa_pk (i := 2) rfl (by first | exact .inl rfl | exact .inr (.inl rfl) | exact .inr (.inr rfl)))) (sg_n g.nd rfl (by first | exact .inl rfl | exact .inr rfl)))
    (sss_cons (ss_asg (se_item g (sa_pk (i := 0) rfl (by first | exact .inl rfl | exact .inr (.inl rfl) | exact .inr (.inr rfl))) (sa_pk (i := 3) rfl (by first | exact .inl rfl | exact .inr (.inl rfl) | exact .inr (.inr rfl)))) (sg_n g.nd rfl (by first | exact .inl rfl | exact .inr rfl)))
    (sss_cons (ss_ret (se_sub (sa_pk (i := 1) rfl (by first | exact .inl rfl | exact .inr (.inl rfl) | exact .inr (.inr rfl))) (sa_pk (i := 4) rfl (by first | exact .inl rfl | exact .inr (.inl rfl) | exact .inr (.inr rfl)))))
    sss_nil))))
/-! in_air -/
def s_in_air : List SV := [sEx (eCall m_check_row [eV 0]), sAsg (gN 2) (eC (.int 0)), sFor (itR1 (.ev (eOp oAdd [.ev (eC (.int 35)), .ev (eC (.int 1))]))) (gN 3) (sSeq [sAug 2 (oOr oAddI oAddS) (.ev (eOp oInt1 [.ev (eOp oGt [.ev (eCall m_height_at [eV 0, eOp oSub [.pk 1, .pk 3]]), .pk 3])]))]), sRet (eM 2)]
def m_in_air : FnV := fn 4 2 (sSeq s_in_air)
def n_in_air : List Str := ["row", "beat", "found", "back"]
def p_in_air : List Str := ["row", "beat"]
theorem f_in_air : FnScope n_in_air p_in_air (defScope (top 16)) := ⟨rfl, rfl, rfl, by decide, rfl, by decide, by decide⟩
theorem w_in_air (F : ∀ x, x ∈ blts → mg x = none) (c_MOST_HEIGHT : ∃ t, mg "MOST_HEIGHT" = some (.int 35 t)) (q_check_row : CalP P w K mg base 3 "check_row" 1 (SpV K T m_check_row)) (q_height_at : CalP P w K mg base 1 "height_at" 2 (SpV K T m_height_at)) {qual : Str} {f : Addr} (cdv : Value) (A : Around) (outer : List Env) (s : Shared) (H : Hp) (E : XK) (hr : Room 3 (A.deeper (envOfC qual (defScope (top 16)) s.heap.objs.size f cdv))) :
    SSs (DCx P w K mg base n_in_air qual (defScope (top 16)) f cdv A outer s H E) T (WD E) (defBody (top 16)) s_in_air :=
  have g := go_def (P := P) (w := w) (K := K) (mg := mg) (base := base) (outer := outer) (H := H) (E := E) f_in_air hr
  (sss_cons (ss_ex (se_call ⟨q_check_row⟩ (g.hr.mono (by decide)) rfl g.tk (svs_cons (se_v (i := 0) rfl (by first | exact .inl rfl | exact .inr (.inl rfl) | exact .inr (.inr rfl))) svs_nil)))
    (sss_cons (ss_asg se_int (sg_n g.nd rfl (by first | exact .inl rfl | exact .inr rfl)))
    (sss_cons (ss_for po_def g.cm (si_r1 rfl (F "range" (by decide)) (sa_ev (se_add (sa_ev (se_gi rfl c_MOST_HEIGHT)) (sa_ev se_int)))) (sg_n g.nd rfl (by first | exact .inl rfl | exact .inr rfl))
    (sss_cons (ss_aug (i := 2) g.nd rfl (by first | exact .inl rfl | exact .inr rfl) (sa_ev (se_toint rfl (F "int" (by decide)) (sa_ev (se_cmp rc_gt d_gt (sa_ev (se_call ⟨q_height_at⟩ (g.hr.mono (by decide)) rfl g.tk (svs_cons (se_v (i := 0) rfl (by first | exact .inl rfl | exact .inr (.inl rfl) | exact .inr (.inr rfl))) (svs_cons (se_sub (sa_pk (i := 1) rfl (by first | exact .inl rfl | exact .inr (.inl rfl) | exact .inr (.inr rfl))) (sa_pk (i := 3) rfl (by first | exact .inl rfl | exact .inr (.inl rfl) | exact .inr (.inr rfl)))) svs_nil)))) (sa_pk (i := 3) rfl (by first | exact .inl rfl | exact .inr (.inl rfl) | exact .inr (.inr rfl))) rfl)))) (iop_add.or iop_add_str) (opD_or2 (opD_I0 fun _ _ => rfl) d_addS))
    sss_nil))
    (sss_cons (ss_ret (se_m (i := 2) rfl (by first | exact .inl rfl | exact .inr (.inl rfl) | exact .inr (.inr rfl))))
    sss_nil))))
/-! average -/
def s_average : List SV := [sPar [1, 2] [eOp oSum [.pk 0], eOp oLen [.pk 0]], sPar [3, 4] [eV 1, eV 2], sWhl 1000000 (tAr (.pk 4)) (sSeq [sPar [3, 4] [eV 4, eOp oMod [.pk 3, .pk 4]]]), sRet (eVs oTup [eOp oDiv [.pk 1, .pk 3], eOp oDiv [.pk 2, .pk 3]])]
def m_average : FnV := fn 5 1 (sSeq s_average)
def n_average : List Str := ["row", "over", "under", "one", "two"]
def p_average : List Str := ["row"]
theorem f_average : FnScope n_average p_average (defScope (top 17)) := ⟨rfl, rfl, rfl, by decide, rfl, by decide, by decide⟩
theorem w_average (F : ∀ x, x ∈ blts → mg x = none) {qual : Str} {f : Addr} (cdv : Value) (A : Around) (outer : List Env) (s : Shared) (H : Hp) (E : XK) (hr : Room 0 (A.deeper (envOfC qual (defScope (top 17)) s.heap.objs.size f cdv))) :
    SSs (DCx P w K mg base n_average qual (defScope (top 17)) f cdv A outer s H E) T (WD E) (defBody (top 17)) s_average :=
  have g := go_def (P := P) (w := w) (K := K) (mg := mg) (base := base) (outer := outer) (H := H) (E := E) f_average hr
  (sss_cons (ss_par g.cm g.nd rfl rfl (by decide) rfl rfl (svs_cons (se_sum g rfl (F "sum" (by decide)) (sa_pk (i := 0) rfl (by first | exact .inl rfl | exact .inr (.inl rfl) | exact .inr (.inr rfl)))) (svs_cons (se_len rfl (F "len" (by decide)) (sa_pk (i := 0) rfl (by first | exact .inl rfl | exact .inr (.inl rfl) | exact .inr (.inr rfl)))) svs_nil)) rfl)
    (sss_cons (ss_par g.cm g.nd rfl rfl (by decide) rfl rfl (svs_cons (se_v (i := 1) rfl (by first | exact .inl rfl | exact .inr (.inl rfl) | exact .inr (.inr rfl))) (svs_cons (se_v (i := 2) rfl (by first | exact .inl rfl | exact .inr (.inl rfl) | exact .inr (.inr rfl))) svs_nil)) rfl)
    (sss_cons (ss_whl 1000000 po_def (st_ar (sa_pk (i := 4) rfl (by first | exact .inl rfl | exact .inr (.inl rfl) | exact .inr (.inr rfl))))
    (sss_cons (ss_par g.cm g.nd rfl rfl (by decide) rfl rfl (svs_cons (se_v (i := 4) rfl (by first | exact .inl rfl | exact .inr (.inl rfl) | exact .inr (.inr rfl))) (svs_cons (se_mod (sa_pk (i := 3) rfl (by first | exact .inl rfl | exact .inr (.inl rfl) | exact .inr (.inr rfl))) (sa_pk (i := 4) rfl (by first | exact .inl rfl | exact .inr (.inl rfl) | exact .inr (.inr rfl)))) svs_nil)) rfl)
    sss_nil))
    (sss_cons (ss_ret (se_tup (svs_cons (se_div (sa_pk (i := 1) rfl (by first | exact .inl rfl | exact .inr (.inl rfl) | exact .inr (.inr rfl))) (sa_pk (i := 3) rfl (by first | exact .inl rfl | exact .inr (.inl rfl) | exact .inr (.inr rfl)))) (svs_cons (se_div (sa_pk (i := 2) rfl (by first | exact .inl rfl | exact .inr (.inl rfl) | exact .inr (.inr rfl))) (sa_pk (i := 3) rfl (by first | exact .inl rfl | exact .inr (.inl rfl) | exact .inr (.inr rfl)))) svs_nil))))
    sss_nil))))
/-! mean_is_whole -/
def s_mean_is_whole : List SV := [sRet (eOp oEq [.ev (eOp oMod [.ev (eOp oSum [.pk 0]), .ev (eOp oLen [.pk 0])]), .ev (eC (.int 0))])]
def m_mean_is_whole : FnV := fn 1 1 (sSeq s_mean_is_whole)
def n_mean_is_whole : List Str := ["row"]
def p_mean_is_whole : List Str := ["row"]
theorem f_mean_is_whole : FnScope n_mean_is_whole p_mean_is_whole (defScope (top 18)) := ⟨rfl, rfl, rfl, by decide, rfl, by decide, by decide⟩
theorem w_mean_is_whole (F : ∀ x, x ∈ blts → mg x = none) {qual : Str} {f : Addr} (cdv : Value) (A : Around) (outer : List Env) (s : Shared) (H : Hp) (E : XK) (hr : Room 0 (A.deeper (envOfC qual (defScope (top 18)) s.heap.objs.size f cdv))) :
    SSs (DCx P w K mg base n_mean_is_whole qual (defScope (top 18)) f cdv A outer s H E) T (WD E) (defBody (top 18)) s_mean_is_whole :=
  have g := go_def (P := P) (w := w) (K := K) (mg := mg) (base := base) (outer := outer) (H := H) (E := E) f_mean_is_whole hr
  (sss_cons (ss_ret (se_cmp (rc_eq g) d_eq (sa_ev (se_mod (sa_ev (se_sum g rfl (F "sum" (by decide)) (sa_pk (i := 0) rfl (by first | exact .inl rfl | exact .inr (.inl rfl) | exact .inr (.inr rfl))))) (sa_ev (se_len rfl (F "len" (by decide)) (sa_pk (i := 0) rfl (by first | exact .inl rfl | exact .inr (.inl rfl) | exact .inr (.inr rfl))))))) (sa_ev se_int) rfl))
    sss_nil)
/-! put_right -/
def s_put_right : List SV := [sAsg (gN 1) (eNewK), sAsg (gN 2) (eVs oLst []), sFor (itE (eV 0)) (gT [gN 3, gN 4]) (sSeq [sWhl 1000000 (tOf (eOp oIn [.ev (eOp oMod [.ev (eOp oAdd [.pk 3, .pk 4]), .ev (eOp oLen [.pk 0])]), .pk 1])) (sSeq [sAug 4 (oOr oAddI oAddS) (.ev (eC (.int 1)))]), sPut 1 uSet (eC (.bool true)) (eOp oMod [.ev (eOp oAdd [.pk 3, .pk 4]), .ev (eOp oLen [.pk 0])]), sEx (eMt "list" 2 mAppend [eV 4])]), sRet (eOp oTuple [.pk 2])]
def m_put_right : FnV := fn 5 1 (sSeq s_put_right)
def n_put_right : List Str := ["row", "taken", "found", "beat", "height"]
def p_put_right : List Str := ["row"]
theorem f_put_right : FnScope n_put_right p_put_right (defScope (top 19)) := ⟨rfl, rfl, rfl, by decide, rfl, by decide, by decide⟩
theorem w_put_right (F : ∀ x, x ∈ blts → mg x = none) {qual : Str} {f : Addr} (cdv : Value) (A : Around) (outer : List Env) (s : Shared) (H : Hp) (E : XK) (hr : Room 0 (A.deeper (envOfC qual (defScope (top 19)) s.heap.objs.size f cdv))) :
    SSs (DCx P w K mg base n_put_right qual (defScope (top 19)) f cdv A outer s H E) T (WD E) (defBody (top 19)) s_put_right :=
  have g := go_def (P := P) (w := w) (K := K) (mg := mg) (base := base) (outer := outer) (H := H) (E := E) f_put_right hr
  (sss_cons (ss_asg se_newK (sg_n g.nd rfl (by first | exact .inl rfl | exact .inr rfl)))
    (sss_cons (ss_asg (se_lst svs_nil) (sg_n g.nd rfl (by first | exact .inl rfl | exact .inr rfl)))
    (sss_cons (ss_for po_def g.cm (si_e rfl (F "enumerate" (by decide)) (se_v (i := 0) rfl (by first | exact .inl rfl | exact .inr (.inl rfl) | exact .inr (.inr rfl)))) (sg_t g.cm (sgs_cons (sg_n g.nd rfl (by first | exact .inl rfl | exact .inr rfl)) (sgs_cons (sg_n g.nd rfl (by first | exact .inl rfl | exact .inr rfl)) sgs_nil)))
    (sss_cons (ss_whl 1000000 po_def (st_cmp (rc_in g) d_in (sa_ev (se_mod (sa_ev (se_add (sa_pk (i := 3) rfl (by first | exact .inl rfl | exact .inr (.inl rfl) | exact .inr (.inr rfl))) (sa_pk (i := 4) rfl (by first | exact .inl rfl | exact .inr (.inl rfl) | exact .inr (.inr rfl))))) (sa_ev (se_len rfl (F "len" (by decide)) (sa_pk (i := 0) rfl (by first | exact .inl rfl | exact .inr (.inl rfl) | exact .inr (.inr rfl))))))) (sa_pk (i := 1) rfl (by first | exact .inl rfl | exact .inr (.inl rfl) | exact .inr (.inr rfl))) rfl)
    (sss_cons (ss_aug (i := 4) g.nd rfl (by first | exact .inl rfl | exact .inr rfl) (sa_ev se_int) (iop_add.or iop_add_str) (opD_or2 (opD_I0 fun _ _ => rfl) d_addS))
    sss_nil))
    (sss_cons (ss_put (i := 1) rfl (by first | exact .inl rfl | exact .inr (.inl rfl) | exact .inr (.inr rfl)) se_bl (se_mod (sa_ev (se_add (sa_pk (i := 3) rfl (by first | exact .inl rfl | exact .inr (.inl rfl) | exact .inr (.inr rfl))) (sa_pk (i := 4) rfl (by first | exact .inl rfl | exact .inr (.inl rfl) | exact .inr (.inr rfl))))) (sa_ev (se_len rfl (F "len" (by decide)) (sa_pk (i := 0) rfl (by first | exact .inl rfl | exact .inr (.inl rfl) | exact .inr (.inr rfl)))))) (ps_set g) u_set)
    (sss_cons (ss_ex (se_append (i := 2) rfl (by first | exact .inl rfl | exact .inr (.inl rfl) | exact .inr (.inr rfl)) (se_v (i := 4) rfl (by first | exact .inl rfl | exact .inr (.inl rfl) | exact .inr (.inr rfl)))))
    sss_nil))))
    (sss_cons (ss_ret (se_totup rfl (F "tuple" (by decide)) (sa_pk (i := 2) rfl (by first | exact .inl rfl | exact .inr (.inl rfl) | exact .inr (.inr rfl)))))
    sss_nil))))
/-! same_throws -/
def s_same_throws : List SV := [sRet (eOp oEq [.ev (eOp oSort [.pk 0]), .ev (eOp oSort [.pk 1])])]
def m_same_throws : FnV := fn 2 2 (sSeq s_same_throws)
def n_same_throws : List Str := ["one", "two"]
def p_same_throws : List Str := ["one", "two"]
theorem f_same_throws : FnScope n_same_throws p_same_throws (defScope (top 20)) := ⟨rfl, rfl, rfl, by decide, rfl, by decide, by decide⟩
theorem w_same_throws (F : ∀ x, x ∈ blts → mg x = none) {qual : Str} {f : Addr} (cdv : Value) (A : Around) (outer : List Env) (s : Shared) (H : Hp) (E : XK) (hr : Room 0 (A.deeper (envOfC qual (defScope (top 20)) s.heap.objs.size f cdv))) :
    SSs (DCx P w K mg base n_same_throws qual (defScope (top 20)) f cdv A outer s H E) T (WD E) (defBody (top 20)) s_same_throws :=
  have g := go_def (P := P) (w := w) (K := K) (mg := mg) (base := base) (outer := outer) (H := H) (E := E) f_same_throws hr
  (sss_cons (ss_ret (se_cmp (rc_eq g) d_eq (sa_ev (se_sorted g rfl (F "sorted" (by decide)) (sa_pk (i := 0) rfl (by first | exact .inl rfl | exact .inr (.inl rfl) | exact .inr (.inr rfl))))) (sa_ev (se_sorted g rfl (F "sorted" (by decide)) (sa_pk (i := 1) rfl (by first | exact .inl rfl | exact .inr (.inl rfl) | exact .inr (.inr rfl))))) rfl))
    sss_nil)
/-! counts_of -/
def s_counts_of : List SV := [sAsg (gN 1) (eNewK), sFor (itV (eV 0)) (gN 2) (sSeq [sPut 1 uSet (eOp oAdd [.ev (eMs "dict" oGet2 1 [eV 2, eC (.int 0)]), .ev (eC (.int 1))]) (eV 2)]), sRet (eSIt 1)]
def m_counts_of : FnV := fn 3 1 (sSeq s_counts_of)
def n_counts_of : List Str := ["row", "found", "height"]
def p_counts_of : List Str := ["row"]
theorem f_counts_of : FnScope n_counts_of p_counts_of (defScope (top 21)) := ⟨rfl, rfl, rfl, by decide, rfl, by decide, by decide⟩
theorem w_counts_of (F : ∀ x, x ∈ blts → mg x = none) {qual : Str} {f : Addr} (cdv : Value) (A : Around) (outer : List Env) (s : Shared) (H : Hp) (E : XK) (hr : Room 0 (A.deeper (envOfC qual (defScope (top 21)) s.heap.objs.size f cdv))) :
    SSs (DCx P w K mg base n_counts_of qual (defScope (top 21)) f cdv A outer s H E) T (WD E) (defBody (top 21)) s_counts_of :=
  have g := go_def (P := P) (w := w) (K := K) (mg := mg) (base := base) (outer := outer) (H := H) (E := E) f_counts_of hr
  (sss_cons (ss_asg se_newK (sg_n g.nd rfl (by first | exact .inl rfl | exact .inr rfl)))
    (sss_cons (ss_for po_def g.cm (si_v (se_v (i := 0) rfl (by first | exact .inl rfl | exact .inr (.inl rfl) | exact .inr (.inr rfl)))) (sg_n g.nd rfl (by first | exact .inl rfl | exact .inr rfl))
    (sss_cons (ss_put (i := 1) rfl (by first | exact .inl rfl | exact .inr (.inl rfl) | exact .inr (.inr rfl)) (se_add (sa_ev (se_get2 (i := 1) g rfl (by first | exact .inl rfl | exact .inr (.inl rfl) | exact .inr (.inr rfl)) (se_v (i := 2) rfl (by first | exact .inl rfl | exact .inr (.inl rfl) | exact .inr (.inr rfl))) se_int)) (sa_ev se_int)) (se_v (i := 2) rfl (by first | exact .inl rfl | exact .inr (.inl rfl) | exact .inr (.inr rfl))) (ps_set g) u_set)
    sss_nil))
    (sss_cons (ss_ret (se_sitems (i := 1) g rfl (by first | exact .inl rfl | exact .inr (.inl rfl) | exact .inr (.inr rfl)) rfl (F "sorted" (by decide))))
    sss_nil)))
/-! greatest -/
def s_greatest : List SV := [sRet (eOp oMax [.pk 0])]
def m_greatest : FnV := fn 1 1 (sSeq s_greatest)
def n_greatest : List Str := ["row"]
def p_greatest : List Str := ["row"]
theorem f_greatest : FnScope n_greatest p_greatest (defScope (top 22)) := ⟨rfl, rfl, rfl, by decide, rfl, by decide, by decide⟩
theorem w_greatest (F : ∀ x, x ∈ blts → mg x = none) {qual : Str} {f : Addr} (cdv : Value) (A : Around) (outer : List Env) (s : Shared) (H : Hp) (E : XK) (hr : Room 0 (A.deeper (envOfC qual (defScope (top 22)) s.heap.objs.size f cdv))) :
    SSs (DCx P w K mg base n_greatest qual (defScope (top 22)) f cdv A outer s H E) T (WD E) (defBody (top 22)) s_greatest :=
  have g := go_def (P := P) (w := w) (K := K) (mg := mg) (base := base) (outer := outer) (H := H) (E := E) f_greatest hr
  (sss_cons (ss_ret (se_max g rfl (F "max" (by decide)) (sa_pk (i := 0) rfl (by first | exact .inl rfl | exact .inr (.inl rfl) | exact .inr (.inr rfl)))))
    sss_nil)
/-! _law_draws -/
def s__law_draws : List SV := [sAsg (gN 3) (eV 0), sIf (tOf (eOp oLt [.pk 3, .ev (eC (.int 0))])) (sSeq [sAsg (gN 3) (eOp oSub [.ev (eOp oSub [.ev (eC (.int 0)), .ev (eC (.int 1))]), .pk 3])]) (sSeq []), sAsg (gN 4) (eVs oLst []), sIf (tOf (eOp oGe [.pk 3, .ev (eOp oPow [.ev (eC (.int 10)), .ev (eC (.int 18))])])) (sSeq [sFor (itR1 (.pk 2)) (gN 5) (sSeq [sEx (eMt "list" 4 mAppend [eOp oMod [.ev (eOp oInt1 [.pk 3]), .pk 1]]), sAsg (gN 3) (eOp oDiv [.pk 3, .pk 1])]), sRet (eM 4)]) (sSeq []), sFor (itR1 (.pk 2)) (gN 5) (sSeq [sAsg (gN 6) (eOp oMod [.ev (eOp oInt1 [.ev (eOp oMul [.ev (eOp oAdd [.ev (eOp oAdd [.pk 3, .ev (eOp oMul [.ev (eC (.int 7)), .pk 5])]), .ev (eC (.int 1))]), .ev (eC (.int 48271))])]), .ev (eC (.int 2147483647))]), sAsg (gN 6) (eOp oMod [.ev (eOp oInt1 [.ev (eOp oAdd [.ev (eOp oMul [.pk 6, .ev (eC (.int 69621))]), .ev (eOp oMul [.ev (eC (.int 31)), .pk 5])])]), .ev (eC (.int 2147483629))]), sEx (eMt "list" 4 mAppend [eOp oMod [.ev (eOp oInt1 [.ev (eOp oDiv [.pk 6, .ev (eC (.int 7))])]), .pk 1]])]), sRet (eM 4)]
def m__law_draws : FnV := fn 7 3 (sSeq s__law_draws)
def n__law_draws : List Str := ["cell", "modulus", "count", "number", "row", "k", "mixed"]
def p__law_draws : List Str := ["cell", "modulus", "count"]
theorem f__law_draws : FnScope n__law_draws p__law_draws (defScope (top 24)) := ⟨rfl, rfl, rfl, by decide, rfl, by decide, by decide⟩
theorem w__law_draws (F : ∀ x, x ∈ blts → mg x = none) {qual : Str} {f : Addr} (cdv : Value) (A : Around) (outer : List Env) (s : Shared) (H : Hp) (E : XK) (hr : Room 0 (A.deeper (envOfC qual (defScope (top 24)) s.heap.objs.size f cdv))) :
    SSs (DCx P w K mg base n__law_draws qual (defScope (top 24)) f cdv A outer s H E) T (WD E) (defBody (top 24)) s__law_draws :=
  have g := go_def (P := P) (w := w) (K := K) (mg := mg) (base := base) (outer := outer) (H := H) (E := E) f__law_draws hr
  (sss_cons (ss_asg (se_v (i := 0) rfl (by first | exact .inl rfl | exact .inr (.inl rfl) | exact .inr (.inr rfl))) (sg_n g.nd rfl (by first | exact .inl rfl | exact .inr rfl)))
    (sss_cons (ss_if (st_cmp rc_lt d_lt (sa_pk (i := 3) rfl (by first | exact .inl rfl | exact .inr (.inl rfl) | exact .inr (.inr rfl))) (sa_ev se_int) rfl)
    (sss_cons (ss_asg (se_sub (sa_ev (se_sub (sa_ev se_int) (sa_ev se_int))) (sa_pk (i := 3) rfl (by first | exact .inl rfl | exact .inr (.inl rfl) | exact .inr (.inr rfl)))) (sg_n g.nd rfl (by first | exact .inl rfl | exact .inr rfl)))
    sss_nil)
    sss_nil)
    (sss_cons (ss_asg (se_lst svs_nil) (sg_n g.nd rfl (by first | exact .inl rfl | exact .inr rfl)))
    (sss_cons (ss_if (st_cmp rc_ge d_ge (sa_pk (i := 3) rfl (by first | exact .inl rfl | exact .inr (.inl rfl) | exact .inr (.inr rfl))) (sa_ev (se_pow (sa_ev se_int) (sa_ev se_int))) rfl)
    (sss_cons (ss_for po_def g.cm (si_r1 rfl (F "range" (by decide)) (sa_pk (i := 2) rfl (by first | exact .inl rfl | exact .inr (.inl rfl) | exact .inr (.inr rfl)))) (sg_n g.nd rfl (by first | exact .inl rfl | exact .inr rfl))
    (sss_cons (ss_ex (se_append (i := 4) rfl (by first | exact .inl rfl | exact .inr (.inl rfl) | exact .inr (.inr rfl)) (se_mod (sa_ev (se_toint rfl (F "int" (by decide)) (sa_pk (i := 3) rfl (by first | exact .inl rfl | exact .inr (.inl rfl) | exact .inr (.inr rfl))))) (sa_pk (i := 1) rfl (by first | exact .inl rfl | exact .inr (.inl rfl) | exact .inr (.inr rfl))))))
    (sss_cons (ss_asg (se_div (sa_pk (i := 3) rfl (by first | exact .inl rfl | exact .inr (.inl rfl) | exact .inr (.inr rfl))) (sa_pk (i := 1) rfl (by first | exact .inl rfl | exact .inr (.inl rfl) | exact .inr (.inr rfl)))) (sg_n g.nd rfl (by first | exact .inl rfl | exact .inr rfl)))
    sss_nil)))
    (sss_cons (ss_ret (se_m (i := 4) rfl (by first | exact .inl rfl | exact .inr (.inl rfl) | exact .inr (.inr rfl))))
    sss_nil))
    sss_nil)
    (sss_cons (ss_for po_def g.cm (si_r1 rfl (F "range" (by decide)) (sa_pk (i := 2) rfl (by first | exact .inl rfl | exact .inr (.inl rfl) | exact .inr (.inr rfl)))) (sg_n g.nd rfl (by first | exact .inl rfl | exact .inr rfl))
    (sss_cons (ss_asg (se_mod (sa_ev (se_toint rfl (F "int" (by decide)) (sa_ev (se_mul (sa_ev (se_add (sa_ev (se_add (sa_pk (i := 3) rfl (by first | exact .inl rfl | exact .inr (.inl rfl) | exact .inr (.inr rfl))) (sa_ev (se_mul (sa_ev se_int) (sa_pk (i := 5) rfl (by first | exact .inl rfl | exact .inr (.inl rfl) | exact .inr (.inr rfl))))))) (sa_ev se_int))) (sa_ev se_int))))) (sa_ev se_int)) (sg_n g.nd rfl (by first | exact .inl rfl | exact .inr rfl)))
    (sss_cons (ss_asg (se_mod (sa_ev (se_toint rfl (F "int" (by decide)) (sa_ev (se_add (sa_ev (se_mul (sa_pk (i := 6) rfl (by first | exact .inl rfl | exact .inr (.inl rfl) | exact .inr (.inr rfl))) (sa_ev se_int))) (sa_ev (se_mul (sa_ev se_int) (sa_pk (i := 5) rfl (by first | exact .inl rfl | exact .inr (.inl rfl) | exact .inr (.inr rfl))))))))) (sa_ev se_int)) (sg_n g.nd rfl (by first | exact .inl rfl | exact .inr rfl)))
    (sss_cons (ss_ex (se_append (i := 4) rfl (by first | exact .inl rfl | exact .inr (.inl rfl) | exact .inr (.inr rfl)) (se_mod (sa_ev (se_toint rfl (F "int" (by decide)) (sa_ev (se_div (sa_pk (i := 6) rfl (by first | exact .inl rfl | exact .inr (.inl rfl) | exact .inr (.inr rfl))) (sa_ev se_int))))) (sa_pk (i := 1) rfl (by first | exact .inl rfl | exact .inr (.inl rfl) | exact .inr (.inr rfl))))))
    sss_nil))))
    (sss_cons (ss_ret (se_m (i := 4) rfl (by first | exact .inl rfl | exact .inr (.inl rfl) | exact .inr (.inr rfl))))
    sss_nil))))))
/-! _law_box -/
def s__law_box : List SV := [sAsg (gN 1) (eVs oLst []), sFor (itV (eV 0)) (gN 2) (sSeq [sAsg (gN 1) (eOp oAdd [.pk 1, .ev (eCall m__law_draws [eV 2, eC (.int 1000003), eC (.int 6)])])]), sIf (tOf (eOp oEq [.ev (eOp oLen [.pk 1]), .ev (eC (.int 0))])) (sSeq [sAsg (gN 1) (eVs oLst [eC (.int 11), eC (.int 5), eC (.int 2), eC (.int 7), eC (.int 31), eC (.int 101), eC (.int 997)])]) (sSeq []), sRet (eDisp [(eC (.str "row"), eV 1), (eC (.str "at"), eC (.int 0))])]
def m__law_box : FnV := fn 3 1 (sSeq s__law_box)
def n__law_box : List Str := ["script", "row", "cell"]
def p__law_box : List Str := ["script"]
theorem f__law_box : FnScope n__law_box p__law_box (defScope (top 25)) := ⟨rfl, rfl, rfl, by decide, rfl, by decide, by decide⟩
theorem w__law_box (F : ∀ x, x ∈ blts → mg x = none) (q__law_draws : CalP P w K mg base 1 "_law_draws" 3 (SpV K T m__law_draws)) {qual : Str} {f : Addr} (cdv : Value) (A : Around) (outer : List Env) (s : Shared) (H : Hp) (E : XK) (hr : Room 1 (A.deeper (envOfC qual (defScope (top 25)) s.heap.objs.size f cdv))) :
    SSs (DCx P w K mg base n__law_box qual (defScope (top 25)) f cdv A outer s H E) T (WD E) (defBody (top 25)) s__law_box :=
  have g := go_def (P := P) (w := w) (K := K) (mg := mg) (base := base) (outer := outer) (H := H) (E := E) f__law_box hr
  (sss_cons (ss_asg (se_lst svs_nil) (sg_n g.nd rfl (by first | exact .inl rfl | exact .inr rfl)))
    (sss_cons (ss_for po_def g.cm (si_v (se_v (i := 0) rfl (by first | exact .inl rfl | exact .inr (.inl rfl) | exact .inr (.inr rfl)))) (sg_n g.nd rfl (by first | exact .inl rfl | exact .inr rfl))
    (sss_cons (ss_asg (se_add (sa_pk (i := 1) rfl (by first | exact .inl rfl | exact .inr (.inl rfl) | exact .inr (.inr rfl))) (sa_ev (se_call ⟨q__law_draws⟩ (g.hr.mono (by decide)) rfl g.tk (svs_cons (se_v (i := 2) rfl (by first | exact .inl rfl | exact .inr (.inl rfl) | exact .inr (.inr rfl))) (svs_cons se_int (svs_cons se_int svs_nil)))))) (sg_n g.nd rfl (by first | exact .inl rfl | exact .inr rfl)))
    sss_nil))
    (sss_cons (ss_if (st_cmp (rc_eq g) d_eq (sa_ev (se_len rfl (F "len" (by decide)) (sa_pk (i := 1) rfl (by first | exact .inl rfl | exact .inr (.inl rfl) | exact .inr (.inr rfl))))) (sa_ev se_int) rfl)
    (sss_cons (ss_asg (se_lst (svs_cons se_int (svs_cons se_int (svs_cons se_int (svs_cons se_int (svs_cons se_int (svs_cons se_int (svs_cons se_int svs_nil)))))))) (sg_n g.nd rfl (by first | exact .inl rfl | exact .inr rfl)))
    sss_nil)
    sss_nil)
    (sss_cons (ss_ret (se_disp (sps_cons se_str (se_v (i := 1) rfl (by first | exact .inl rfl | exact .inr (.inl rfl) | exact .inr (.inr rfl))) (sps_cons se_str se_int sps_nil))))
    sss_nil))))
/-! _law_next -/
def s__law_next : List SV := [sAsg (gN 2) (eOp oIx [.pk 0, .ev (eC (.str "at"))]), sPut 0 uSet (eOp oAdd [.pk 2, .ev (eC (.int 1))]) (eC (.str "at")), sAsg (gN 3) (eOp oIx [.ev (eOp oIx [.pk 0, .ev (eC (.str "row"))]), .ev (eOp oMod [.pk 2, .ev (eOp oLen [.ev (eOp oIx [.pk 0, .ev (eC (.str "row"))])])])]), sRet (eOp oMod [.ev (eOp oInt1 [.ev (eOp oAdd [.pk 3, .ev (eOp oMul [.ev (eC (.int 7919)), .ev (eOp oDiv [.pk 2, .ev (eOp oLen [.ev (eOp oIx [.pk 0, .ev (eC (.str "row"))])])])])])]), .pk 1])]
def m__law_next : FnV := fnI 4 2 (sSeq s__law_next)
def n__law_next : List Str := ["box", "modulus", "at", "number"]
def p__law_next : List Str := ["box", "modulus"]
theorem f__law_next : FnScope n__law_next p__law_next (defScope (top 26)) := ⟨rfl, rfl, rfl, by decide, rfl, by decide, by decide⟩
theorem w__law_next (F : ∀ x, x ∈ blts → mg x = none) {qual : Str} {f : Addr} (cdv : Value) (A : Around) (outer : List Env) (s : Shared) (H : Hp) (E : XK) (hr : Room 0 (A.deeper (envOfC qual (defScope (top 26)) s.heap.objs.size f cdv))) :
    SSs (DCx P w K mg base n__law_next qual (defScope (top 26)) f cdv A outer s H E) T (WD E) (defBody (top 26)) s__law_next :=
  have g := go_def (P := P) (w := w) (K := K) (mg := mg) (base := base) (outer := outer) (H := H) (E := E) f__law_next hr
  (sss_cons (ss_asg (se_item g (sa_pk (i := 0) rfl (by first | exact .inl rfl | exact .inr (.inl rfl) | exact .inr (.inr rfl))) (sa_ev se_str)) (sg_n g.nd rfl (by first | exact .inl rfl | exact .inr rfl)))
    (sss_cons (ss_put (i := 0) rfl (by first | exact .inl rfl | exact .inr (.inl rfl) | exact .inr (.inr rfl)) (se_add (sa_pk (i := 2) rfl (by first | exact .inl rfl | exact .inr (.inl rfl) | exact .inr (.inr rfl))) (sa_ev se_int)) se_str (ps_set g) u_set)
    (sss_cons (ss_asg (se_item g (sa_ev (se_item g (sa_pk (i := 0) rfl (by first | exact .inl rfl | exact .inr (.inl rfl) | exact .inr (.inr rfl))) (sa_ev se_str))) (sa_ev (se_mod (sa_pk (i := 2) rfl (by first | exact .inl rfl | exact .inr (.inl rfl) | exact .inr (.inr rfl))) (sa_ev (se_len rfl (F "len" (by decide)) (sa_ev (se_item g (sa_pk (i := 0) rfl (by first | exact .inl rfl | exact .inr (.inl rfl) | exact .inr (.inr rfl))) (sa_ev se_str)))))))) (sg_n g.nd rfl (by first | exact .inl rfl | exact .inr rfl)))
    (sss_cons (ss_ret (se_mod (sa_ev (se_toint rfl (F "int" (by decide)) (sa_ev (se_add (sa_pk (i := 3) rfl (by first | exact .inl rfl | exact .inr (.inl rfl) | exact .inr (.inr rfl))) (sa_ev (se_mul (sa_ev se_int) (sa_ev (se_div (sa_pk (i := 2) rfl (by first | exact .inl rfl | exact .inr (.inl rfl) | exact .inr (.inr rfl))) (sa_ev (se_len rfl (F "len" (by decide)) (sa_ev (se_item g (sa_pk (i := 0) rfl (by first | exact .inl rfl | exact .inr (.inl rfl) | exact .inr (.inr rfl))) (sa_ev se_str))))))))))))) (sa_pk (i := 1) rfl (by first | exact .inl rfl | exact .inr (.inl rfl) | exact .inr (.inr rfl)))))
    sss_nil))))
/-! _law_row -/
def s__law_row : List SV := [sAsg (gN 3) (eOp oAdd [.ev (eC (.int 1)), .ev (eCallI m__law_next 0 [eV 2])]), sAsg (gN 4) (eOp oLR1 [.pk 3]), sAsg (gN 5) (eVs oLst []), sFor (itR1 (.pk 3)) (gN 6) (sSeq [sAsg (gN 7) (eMt "list" 4 mPopAt [eCallI m__law_next 0 [eOp oLen [.pk 4]]]), sAsg (gN 8) (eOp oMod [.ev (eOp oSub [.pk 7, .pk 6]), .pk 3]), sAsg (gN 9) (eOp oDiv [.ev (eOp oSub [.pk 1, .pk 8]), .pk 3]), sEx (eMt "list" 5 mAppend [eOp oAdd [.pk 8, .ev (eOp oMul [.pk 3, .ev (eIf (tOf (eOp oGt [.pk 9, .ev (eC (.int 0))])) (eCallI m__law_next 0 [eOp oAdd [.pk 9, .ev (eC (.int 1))]]) (eC (.int 0)))])]])]), sRet (eOp oTuple [.pk 5])]
def m__law_row : FnV := fnI 10 3 (sSeq s__law_row)
def n__law_row : List Str := ["box", "most", "length", "many", "left", "row", "beat", "place", "height", "rest"]
def p__law_row : List Str := ["box", "most", "length"]
theorem f__law_row : FnScope n__law_row p__law_row (defScope (top 27)) := ⟨rfl, rfl, rfl, by decide, rfl, by decide, by decide⟩
theorem w__law_row (F : ∀ x, x ∈ blts → mg x = none) (q__law_next : CalP P w K mg base 1 "_law_next" 2 (SpI K T m__law_next)) {qual : Str} {f : Addr} (cdv : Value) (A : Around) (outer : List Env) (s : Shared) (H : Hp) (E : XK) (hr : Room 1 (A.deeper (envOfC qual (defScope (top 27)) s.heap.objs.size f cdv))) :
    SSs (DCx P w K mg base n__law_row qual (defScope (top 27)) f cdv A outer s H E) T (WD E) (defBody (top 27)) s__law_row :=
  have g := go_def (P := P) (w := w) (K := K) (mg := mg) (base := base) (outer := outer) (H := H) (E := E) f__law_row hr
  (sss_cons (ss_asg (se_add (sa_ev se_int) (sa_ev (se_callI (i := 0) ⟨q__law_next⟩ (g.hr.mono (by decide)) rfl g.tk rfl (by first | exact .inl rfl | exact .inr (.inl rfl) | exact .inr (.inr rfl)) (svs_cons (se_v (i := 2) rfl (by first | exact .inl rfl | exact .inr (.inl rfl) | exact .inr (.inr rfl))) svs_nil)))) (sg_n g.nd rfl (by first | exact .inl rfl | exact .inr rfl)))
    (sss_cons (ss_asg (se_lr1 g.cm rfl (F "list" (by decide)) rfl (F "range" (by decide)) (sa_pk (i := 3) rfl (by first | exact .inl rfl | exact .inr (.inl rfl) | exact .inr (.inr rfl)))) (sg_n g.nd rfl (by first | exact .inl rfl | exact .inr rfl)))
    (sss_cons (ss_asg (se_lst svs_nil) (sg_n g.nd rfl (by first | exact .inl rfl | exact .inr rfl)))
    (sss_cons (ss_for po_def g.cm (si_r1 rfl (F "range" (by decide)) (sa_pk (i := 3) rfl (by first | exact .inl rfl | exact .inr (.inl rfl) | exact .inr (.inr rfl)))) (sg_n g.nd rfl (by first | exact .inl rfl | exact .inr rfl))
    (sss_cons (ss_asg (se_popi (i := 4) rfl (by first | exact .inl rfl | exact .inr (.inl rfl) | exact .inr (.inr rfl)) (se_callI (i := 0) ⟨q__law_next⟩ (g.hr.mono (by decide)) rfl g.tk rfl (by first | exact .inl rfl | exact .inr (.inl rfl) | exact .inr (.inr rfl)) (svs_cons (se_len rfl (F "len" (by decide)) (sa_pk (i := 4) rfl (by first | exact .inl rfl | exact .inr (.inl rfl) | exact .inr (.inr rfl)))) svs_nil))) (sg_n g.nd rfl (by first | exact .inl rfl | exact .inr rfl)))
    (sss_cons (ss_asg (se_mod (sa_ev (se_sub (sa_pk (i := 7) rfl (by first | exact .inl rfl | exact .inr (.inl rfl) | exact .inr (.inr rfl))) (sa_pk (i := 6) rfl (by first | exact .inl rfl | exact .inr (.inl rfl) | exact .inr (.inr rfl))))) (sa_pk (i := 3) rfl (by first | exact .inl rfl | exact .inr (.inl rfl) | exact .inr (.inr rfl)))) (sg_n g.nd rfl (by first | exact .inl rfl | exact .inr rfl)))
    (sss_cons (ss_asg (se_div (sa_ev (se_sub (sa_pk (i := 1) rfl (by first | exact .inl rfl | exact .inr (.inl rfl) | exact .inr (.inr rfl))) (sa_pk (i := 8) rfl (by first | exact .inl rfl | exact .inr (.inl rfl) | exact .inr (.inr rfl))))) (sa_pk (i := 3) rfl (by first | exact .inl rfl | exact .inr (.inl rfl) | exact .inr (.inr rfl)))) (sg_n g.nd rfl (by first | exact .inl rfl | exact .inr rfl)))
    (sss_cons (ss_ex (se_append (i := 5) rfl (by first | exact .inl rfl | exact .inr (.inl rfl) | exact .inr (.inr rfl)) (se_add (sa_pk (i := 8) rfl (by first | exact .inl rfl | exact .inr (.inl rfl) | exact .inr (.inr rfl))) (sa_ev (se_mul (sa_pk (i := 3) rfl (by first | exact .inl rfl | exact .inr (.inl rfl) | exact .inr (.inr rfl))) (sa_ev (se_if (st_cmp rc_gt d_gt (sa_pk (i := 9) rfl (by first | exact .inl rfl | exact .inr (.inl rfl) | exact .inr (.inr rfl))) (sa_ev se_int) rfl) (se_callI (i := 0) ⟨q__law_next⟩ (g.hr.mono (by decide)) rfl g.tk rfl (by first | exact .inl rfl | exact .inr (.inl rfl) | exact .inr (.inr rfl)) (svs_cons (se_add (sa_pk (i := 9) rfl (by first | exact .inl rfl | exact .inr (.inl rfl) | exact .inr (.inr rfl))) (sa_ev se_int)) svs_nil)) se_int)))))))
    sss_nil)))))
    (sss_cons (ss_ret (se_totup rfl (F "tuple" (by decide)) (sa_pk (i := 5) rfl (by first | exact .inl rfl | exact .inr (.inl rfl) | exact .inr (.inr rfl)))))
    sss_nil)))))
/-! _law_some -/
def s__law_some : List SV := [sRet (eOp oTuple [.ev (eLc (itR1 (.ev (eOp oAdd [.ev (eC (.int 1)), .ev (eCallI m__law_next 0 [eV 2])]))) [3] (gN 3) (tYs) (eCallI m__law_next 0 [eOp oAdd [.pk 1, .ev (eC (.int 1))]]))])]
def m__law_some : FnV := fnI 4 3 (sSeq s__law_some)
def n__law_some : List Str := ["box", "most", "length", "k"]
def p__law_some : List Str := ["box", "most", "length"]
theorem f__law_some : FnScope n__law_some p__law_some (defScope (top 28)) := ⟨rfl, rfl, rfl, by decide, rfl, by decide, by decide⟩
theorem w__law_some (F : ∀ x, x ∈ blts → mg x = none) (q__law_next : CalP P w K mg base 1 "_law_next" 2 (SpI K T m__law_next)) {qual : Str} {f : Addr} (cdv : Value) (A : Around) (outer : List Env) (s : Shared) (H : Hp) (E : XK) (hr : Room 1 (A.deeper (envOfC qual (defScope (top 28)) s.heap.objs.size f cdv))) :
    SSs (DCx P w K mg base n__law_some qual (defScope (top 28)) f cdv A outer s H E) T (WD E) (defBody (top 28)) s__law_some :=
  have g := go_def (P := P) (w := w) (K := K) (mg := mg) (base := base) (outer := outer) (H := H) (E := E) f__law_some hr
  (sss_cons (ss_ret (se_totup rfl (F "tuple" (by decide)) (sa_ev (se_lcG (own := [("k", 3)]) g (si_r1 rfl (F "range" (by decide)) (sa_ev (se_add (sa_ev se_int) (sa_ev (se_callI (i := 0) ⟨q__law_next⟩ (g.hr.mono (by decide)) rfl g.tk rfl (by first | exact .inl rfl | exact .inr (.inl rfl) | exact .inr (.inr rfl)) (svs_cons (se_v (i := 2) rfl (by first | exact .inl rfl | exact .inr (.inl rfl) | exact .inr (.inr rfl))) svs_nil)))))) rfl (fun zs zH zC zl zf g => (sgw_n (by decide) g.nd rfl (by first | exact .inl rfl | exact .inr rfl))) (fun zs zH zC zl zf g => pts_no) (fun zs zH zC zl zf g => (se_callI (i := 0) ⟨q__law_next⟩ (g.hr.mono (by decide)) rfl g.tk rfl (by first | exact .inl rfl | exact .inr (.inl rfl) | exact .inr (.inr rfl)) (svs_cons (se_add (sa_pk (i := 1) rfl (by first | exact .inl rfl | exact .inr (.inl rfl) | exact .inr (.inr rfl))) (sa_ev se_int)) svs_nil)))))))
    sss_nil)
/-! _law_clash -/
def s__law_clash : List SV := [sFor (itR1 (.ev (eOp oLen [.pk 0]))) (gN 1) (sSeq [sFor (itR1 (.pk 1)) (gN 2) (sSeq [sIf (tOf (eOp oEq [.ev (eOp oMod [.ev (eOp oSub [.ev (eOp oSub [.ev (eOp oAdd [.pk 2, .ev (eOp oIx [.pk 0, .pk 2])]), .pk 1]), .ev (eOp oIx [.pk 0, .pk 1])]), .ev (eOp oLen [.pk 0])]), .ev (eC (.int 0))])) (sSeq [sRet (eVs oTup [eV 2, eV 1])]) (sSeq [])])]), sRet (eC .none)]
def m__law_clash : FnV := fn 3 1 (sSeq s__law_clash)
def n__law_clash : List Str := ["row", "late", "early"]
def p__law_clash : List Str := ["row"]
theorem f__law_clash : FnScope n__law_clash p__law_clash (defScope (top 29)) := ⟨rfl, rfl, rfl, by decide, rfl, by decide, by decide⟩
theorem w__law_clash (F : ∀ x, x ∈ blts → mg x = none) {qual : Str} {f : Addr} (cdv : Value) (A : Around) (outer : List Env) (s : Shared) (H : Hp) (E : XK) (hr : Room 0 (A.deeper (envOfC qual (defScope (top 29)) s.heap.objs.size f cdv))) :
    SSs (DCx P w K mg base n__law_clash qual (defScope (top 29)) f cdv A outer s H E) T (WD E) (defBody (top 29)) s__law_clash :=
  have g := go_def (P := P) (w := w) (K := K) (mg := mg) (base := base) (outer := outer) (H := H) (E := E) f__law_clash hr
  (sss_cons (ss_for po_def g.cm (si_r1 rfl (F "range" (by decide)) (sa_ev (se_len rfl (F "len" (by decide)) (sa_pk (i := 0) rfl (by first | exact .inl rfl | exact .inr (.inl rfl) | exact .inr (.inr rfl)))))) (sg_n g.nd rfl (by first | exact .inl rfl | exact .inr rfl))
    (sss_cons (ss_for po_def g.cm (si_r1 rfl (F "range" (by decide)) (sa_pk (i := 1) rfl (by first | exact .inl rfl | exact .inr (.inl rfl) | exact .inr (.inr rfl)))) (sg_n g.nd rfl (by first | exact .inl rfl | exact .inr rfl))
    (sss_cons (ss_if (st_cmp (rc_eq g) d_eq (sa_ev (se_mod (sa_ev (se_sub (sa_ev (se_sub (sa_ev (se_add (sa_pk (i := 2) rfl (by first | exact .inl rfl | exact .inr (.inl rfl) | exact .inr (.inr rfl))) (sa_ev (se_item g (sa_pk (i := 0) rfl (by first | exact .inl rfl | exact .inr (.inl rfl) | exact .inr (.inr rfl))) (sa_pk (i := 2) rfl (by first | exact .inl rfl | exact .inr (.inl rfl) | exact .inr (.inr rfl))))))) (sa_pk (i := 1) rfl (by first | exact .inl rfl | exact .inr (.inl rfl) | exact .inr (.inr rfl))))) (sa_ev (se_item g (sa_pk (i := 0) rfl (by first | exact .inl rfl | exact .inr (.inl rfl) | exact .inr (.inr rfl))) (sa_pk (i := 1) rfl (by first | exact .inl rfl | exact .inr (.inl rfl) | exact .inr (.inr rfl))))))) (sa_ev (se_len rfl (F "len" (by decide)) (sa_pk (i := 0) rfl (by first | exact .inl rfl | exact .inr (.inl rfl) | exact .inr (.inr rfl))))))) (sa_ev se_int) rfl)
    (sss_cons (ss_ret (se_tup (svs_cons (se_v (i := 2) rfl (by first | exact .inl rfl | exact .inr (.inl rfl) | exact .inr (.inr rfl))) (svs_cons (se_v (i := 1) rfl (by first | exact .inl rfl | exact .inr (.inl rfl) | exact .inr (.inr rfl))) svs_nil))))
    sss_nil)
    sss_nil)
    sss_nil))
    sss_nil))
    (sss_cons (ss_ret se_non)
    sss_nil))
/-! _law_order -/
def s__law_order : List SV := [sAsg (gN 2) (eOp oLR1 [.pk 1]), sAsg (gN 3) (eVs oLst []), sFor (itR1 (.pk 1)) (gN 4) (sSeq [sEx (eMt "list" 3 mAppend [eMt "list" 2 mPopAt [eCallI m__law_next 0 [eOp oLen [.pk 2]]]])]), sRet (eM 3)]
def m__law_order : FnV := fnI 5 2 (sSeq s__law_order)
def n__law_order : List Str := ["box", "many", "left", "found", "k"]
def p__law_order : List Str := ["box", "many"]
theorem f__law_order : FnScope n__law_order p__law_order (defScope (top 30)) := ⟨rfl, rfl, rfl, by decide, rfl, by decide, by decide⟩
theorem w__law_order (F : ∀ x, x ∈ blts → mg x = none) (q__law_next : CalP P w K mg base 1 "_law_next" 2 (SpI K T m__law_next)) {qual : Str} {f : Addr} (cdv : Value) (A : Around) (outer : List Env) (s : Shared) (H : Hp) (E : XK) (hr : Room 1 (A.deeper (envOfC qual (defScope (top 30)) s.heap.objs.size f cdv))) :
    SSs (DCx P w K mg base n__law_order qual (defScope (top 30)) f cdv A outer s H E) T (WD E) (defBody (top 30)) s__law_order :=
  have g := go_def (P := P) (w := w) (K := K) (mg := mg) (base := base) (outer := outer) (H := H) (E := E) f__law_order hr
  (sss_cons (ss_asg (se_lr1 g.cm rfl (F "list" (by decide)) rfl (F "range" (by decide)) (sa_pk (i := 1) rfl (by first | exact .inl rfl | exact .inr (.inl rfl) | exact .inr (.inr rfl)))) (sg_n g.nd rfl (by first | exact .inl rfl | exact .inr rfl)))
    (sss_cons (ss_asg (se_lst svs_nil) (sg_n g.nd rfl (by first | exact .inl rfl | exact .inr rfl)))
    (sss_cons (ss_for po_def g.cm (si_r1 rfl (F "range" (by decide)) (sa_pk (i := 1) rfl (by first | exact .inl rfl | exact .inr (.inl rfl) | exact .inr (.inr rfl)))) (sg_n g.nd rfl (by first | exact .inl rfl | exact .inr rfl))
    (sss_cons (ss_ex (se_append (i := 3) rfl (by first | exact .inl rfl | exact .inr (.inl rfl) | exact .inr (.inr rfl)) (se_popi (i := 2) rfl (by first | exact .inl rfl | exact .inr (.inl rfl) | exact .inr (.inr rfl)) (se_callI (i := 0) ⟨q__law_next⟩ (g.hr.mono (by decide)) rfl g.tk rfl (by first | exact .inl rfl | exact .inr (.inl rfl) | exact .inr (.inr rfl)) (svs_cons (se_len rfl (F "len" (by decide)) (sa_pk (i := 2) rfl (by first | exact .inl rfl | exact .inr (.inl rfl) | exact .inr (.inr rfl)))) svs_nil)))))
    sss_nil))
    (sss_cons (ss_ret (se_m (i := 3) rfl (by first | exact .inl rfl | exact .inr (.inl rfl) | exact .inr (.inr rfl))))
    sss_nil))))
/-! _law_common -/
def s__law_common : List SV := [sWhl 1000000 (tOf (eOp oNe [.pk 1, .ev (eC (.int 0))])) (sSeq [sPar [0, 1] [eV 1, eOp oMod [.pk 0, .pk 1]]]), sRet (eOp oAbs [.pk 0])]
def m__law_common : FnV := fn 2 2 (sSeq s__law_common)
def n__law_common : List Str := ["one", "two"]
def p__law_common : List Str := ["one", "two"]
theorem f__law_common : FnScope n__law_common p__law_common (defScope (top 31)) := ⟨rfl, rfl, rfl, by decide, rfl, by decide, by decide⟩
theorem w__law_common (F : ∀ x, x ∈ blts → mg x = none) {qual : Str} {f : Addr} (cdv : Value) (A : Around) (outer : List Env) (s : Shared) (H : Hp) (E : XK) (hr : Room 0 (A.deeper (envOfC qual (defScope (top 31)) s.heap.objs.size f cdv))) :
    SSs (DCx P w K mg base n__law_common qual (defScope (top 31)) f cdv A outer s H E) T (WD E) (defBody (top 31)) s__law_common :=
  have g := go_def (P := P) (w := w) (K := K) (mg := mg) (base := base) (outer := outer) (H := H) (E := E) f__law_common hr
  (sss_cons (ss_whl 1000000 po_def (st_cmp (rc_ne g) d_ne (sa_pk (i := 1) rfl (by first | exact .inl rfl | exact .inr (.inl rfl) | exact .inr (.inr rfl))) (sa_ev se_int) rfl)
    (sss_cons (ss_par g.cm g.nd rfl rfl (by decide) rfl rfl (svs_cons (se_v (i := 1) rfl (by first | exact .inl rfl | exact .inr (.inl rfl) | exact .inr (.inr rfl))) (svs_cons (se_mod (sa_pk (i := 0) rfl (by first | exact .inl rfl | exact .inr (.inl rfl) | exact .inr (.inr rfl))) (sa_pk (i := 1) rfl (by first | exact .inl rfl | exact .inr (.inl rfl) | exact .inr (.inr rfl)))) svs_nil)) rfl)
    sss_nil))
    (sss_cons (ss_ret (se_abs rfl (F "abs" (by decide)) (sa_pk (i := 0) rfl (by first | exact .inl rfl | exact .inr (.inl rfl) | exact .inr (.inr rfl)))))
    sss_nil))
/-! _law_fraction -/
def s__law_fraction : List SV := [sAsg (gN 2) (eCall m__law_common [eV 0, eV 1]), sAsg (gN 3) (eIf (tOf (eOp oGt [.pk 1, .ev (eC (.int 0))])) (eC (.int 1)) (eOp oNeg [.ev (eC (.int 1))])), sRet (eVs oTup [eOp oDiv [.ev (eOp oMul [.pk 3, .pk 0]), .pk 2], eOp oDiv [.ev (eOp oMul [.pk 3, .pk 1]), .pk 2]])]
def m__law_fraction : FnV := fn 4 2 (sSeq s__law_fraction)
def n__law_fraction : List Str := ["one", "two", "common", "sign"]
def p__law_fraction : List Str := ["one", "two"]
theorem f__law_fraction : FnScope n__law_fraction p__law_fraction (defScope (top 32)) := ⟨rfl, rfl, rfl, by decide, rfl, by decide, by decide⟩
theorem w__law_fraction (q__law_common : CalP P w K mg base 1 "_law_common" 2 (SpV K T m__law_common)) {qual : Str} {f : Addr} (cdv : Value) (A : Around) (outer : List Env) (s : Shared) (H : Hp) (E : XK) (hr : Room 1 (A.deeper (envOfC qual (defScope (top 32)) s.heap.objs.size f cdv))) :
    SSs (DCx P w K mg base n__law_fraction qual (defScope (top 32)) f cdv A outer s H E) T (WD E) (defBody (top 32)) s__law_fraction :=
  have g := go_def (P := P) (w := w) (K := K) (mg := mg) (base := base) (outer := outer) (H := H) (E := E) f__law_fraction hr
  (sss_cons (ss_asg (se_call ⟨q__law_common⟩ (g.hr.mono (by decide)) rfl g.tk (svs_cons (se_v (i := 0) rfl (by first | exact .inl rfl | exact .inr (.inl rfl) | exact .inr (.inr rfl))) (svs_cons (se_v (i := 1) rfl (by first | exact .inl rfl | exact .inr (.inl rfl) | exact .inr (.inr rfl))) svs_nil))) (sg_n g.nd rfl (by first | exact .inl rfl | exact .inr rfl)))
    (sss_cons (ss_asg (se_if (st_cmp rc_gt d_gt (sa_pk (i := 1) rfl (by first | exact .inl rfl | exact .inr (.inl rfl) | exact .inr (.inr rfl))) (sa_ev se_int) rfl) se_int (se_neg (sa_ev se_int))) (sg_n g.nd rfl (by first | exact .inl rfl | exact .inr rfl)))
    (sss_cons (ss_ret (se_tup (svs_cons (se_div (sa_ev (se_mul (sa_pk (i := 3) rfl (by first | exact .inl rfl | exact .inr (.inl rfl) | exact .inr (.inr rfl))) (sa_pk (i := 0) rfl (by first | exact .inl rfl | exact .inr (.inl rfl) | exact .inr (.inr rfl))))) (sa_pk (i := 2) rfl (by first | exact .inl rfl | exact .inr (.inl rfl) | exact .inr (.inr rfl)))) (svs_cons (se_div (sa_ev (se_mul (sa_pk (i := 3) rfl (by first | exact .inl rfl | exact .inr (.inl rfl) | exact .inr (.inr rfl))) (sa_pk (i := 1) rfl (by first | exact .inl rfl | exact .inr (.inl rfl) | exact .inr (.inr rfl))))) (sa_pk (i := 2) rfl (by first | exact .inl rfl | exact .inr (.inl rfl) | exact .inr (.inr rfl)))) svs_nil))))
    sss_nil)))
/-! _law_told -/
def s__law_told : List SV := [sTry (sSeq [sIf (tOf (eOp oEq [.pk 1, .ev (eC (.int 0))])) (sSeq [sRet (eCall m_balls [eV 0])]) (sSeq []), sIf (tOf (eOp oEq [.pk 1, .ev (eC (.int 1))])) (sSeq [sEx (eCall m_check_row [eV 0]), sRet (eC .none)]) (sSeq []), sRet (eCall m_moves [eV 0])]) ["Dropped"] "Dropped" 2 (fun d => if isNone d then none else some (.list [.str "dropped", d, .bool true], true))]
def m__law_told : FnV := fn 3 2 (sSeq s__law_told)
def n__law_told : List Str := ["row", "deed", "e"]
def p__law_told : List Str := ["row", "deed"]
theorem f__law_told : FnScope n__law_told p__law_told (defScope (top 33)) := ⟨rfl, rfl, rfl, by decide, rfl, by decide, by decide⟩
theorem w__law_told (F : ∀ x, x ∈ blts → mg x = none) (q_balls : CalP P w K mg base 4 "balls" 1 (SpV K T m_balls)) (q_check_row : CalP P w K mg base 3 "check_row" 1 (SpV K T m_check_row)) (q_moves : CalP P w K mg base 4 "moves" 1 (SpV K T m_moves)) (x_Dropped : TryK K mg "Dropped" ["Dropped"] "EvercaughtError") {qual : Str} {f : Addr} (cdv : Value) (A : Around) (outer : List Env) (s : Shared) (H : Hp) (E : XK) (hr : Room 4 (A.deeper (envOfC qual (defScope (top 33)) s.heap.objs.size f cdv))) :
    SSs (DCx P w K mg base n__law_told qual (defScope (top 33)) f cdv A outer s H E) T (WD E) (defBody (top 33)) s__law_told :=
  have g := go_def (P := P) (w := w) (K := K) (mg := mg) (base := base) (outer := outer) (H := H) (E := E) f__law_told hr
  (sss_cons (ss_try (c := "Dropped") g rfl rfl rfl rfl ⟨rfl, by decide, .inl x_Dropped.nm⟩ x_Dropped.ex (fun zw zp zx g po =>
    (sss_cons (ss_if (st_cmp (rc_eq g) d_eq (sa_pk (i := 1) rfl (by first | exact .inl rfl | exact .inr (.inl rfl) | exact .inr (.inr rfl))) (sa_ev se_int) rfl)
    (sss_cons (ss_ret (se_call ⟨q_balls⟩ (g.hr.mono (by decide)) rfl g.tk (svs_cons (se_v (i := 0) rfl (by first | exact .inl rfl | exact .inr (.inl rfl) | exact .inr (.inr rfl))) svs_nil)))
    sss_nil)
    sss_nil)
    (sss_cons (ss_if (st_cmp (rc_eq g) d_eq (sa_pk (i := 1) rfl (by first | exact .inl rfl | exact .inr (.inl rfl) | exact .inr (.inr rfl))) (sa_ev se_int) rfl)
    (sss_cons (ss_ex (se_call ⟨q_check_row⟩ (g.hr.mono (by decide)) rfl g.tk (svs_cons (se_v (i := 0) rfl (by first | exact .inl rfl | exact .inr (.inl rfl) | exact .inr (.inr rfl))) svs_nil)))
    (sss_cons (ss_ret se_non)
    sss_nil))
    sss_nil)
    (sss_cons (ss_ret (se_call ⟨q_moves⟩ (g.hr.mono (by decide)) rfl g.tk (svs_cons (se_v (i := 0) rfl (by first | exact .inl rfl | exact .inr (.inl rfl) | exact .inr (.inr rfl))) svs_nil)))
    sss_nil)))) (su_fld (i := 2) (c := "Dropped") x_Dropped.cat x_Dropped.fd x_Dropped.no rfl (F "isinstance" (by decide)) rfl rfl (by first | exact .inl rfl | exact .inr (.inl rfl) | exact .inr (.inr rfl))))
    sss_nil)
/-! law -/
def s_law : List SV := [sAsg (gN 1) (eCall m__law_box [eV 0]), sAsg (gT [gN 7, gN 8]) (eVs oTup [eCallI m__law_row 1 [eC (.int 20), eC (.int 9)], eCallI m__law_some 1 [eC (.int 12), eC (.int 9)]]), sFor (itV (eVs oTup [eV 7, eV 8])) (gN 2) (sSeq [sAsg (gN 3) (eOp oLen [.pk 2]), sAsg (gN 9) (eCall m__law_clash [eV 2]), sIf (tOr (tOf (eOp oIsNot [.ev (eCall m_is_row [eV 2]), .ev (eC (.bool true))])) (tOr (tOf (eOp oNe [.ev (eCall m_landings [eV 2]), .ev (eLc (itR1 (.pk 3)) [16] (gN 16) (tYs) (eOp oMod [.ev (eOp oAdd [.pk 16, .ev (eOp oIx [.pk 2, .pk 16])]), .pk 3]))])) (tOf (eOp oNe [.ev (eCall m_clash [eV 2]), .pk 9])))) (sSeq [sRet (eC (.bool false))]) (sSeq []), sAsg (gN 10) (eCall m_can_be_juggled [eV 2]), sIf (tOr (tNo (tAr (.ev (eOp (oIsa "bool") [.pk 10])))) (tOf (eOp oNe [.pk 10, .ev (eOp oIs [.pk 9, .ev (eC .none)])]))) (sSeq [sRet (eC (.bool false))]) (sSeq []), sAsg (gN 11) (eLc (itR1 (.pk 3)) [16] (gN 16) (tYs) (eLc (itR1 (.pk 3)) [21] (gN 21) (tOf (eOp oEq [.ev (eOp oMod [.ev (eOp oAdd [.pk 21, .ev (eOp oIx [.pk 2, .pk 21])]), .pk 3]), .pk 16])) (eV 21))), sAsg (gN 12) (eVs oLst [eOp oDiv [.ev (eOp oSum [.pk 2]), .pk 3], eC .none, eLc (itV (eV 11)) [22] (gN 22) (tYs) (eIf (tOf (eOp oGt [.ev (eOp oLen [.pk 22]), .ev (eC (.int 0))])) (eOp oIx [.pk 22, .ev (eC (.int 0))]) (eC .none))]), sFor (itR1 (.ev (eC (.int 3)))) (gN 13) (sSeq [sIf (tOf (eOp oNe [.ev (eCall m__law_told [eV 2, eV 13]), .ev (eIf (tOf (eOp oIs [.pk 9, .ev (eC .none)])) (eOp oIx [.pk 12, .pk 13]) (eVs oLst [eC (.str "dropped"), eOp oIx [.pk 9, .ev (eC (.int 1))], eC (.bool true)]))])) (sSeq [sRet (eC (.bool false))]) (sSeq [])]), sIf (tOr (tOf (eOp oNe [.ev (eCall m_average [eV 2]), .ev (eCall m__law_fraction [eOp oSum [.pk 2], eV 3])])) (tOr (tOf (eOp oNe [.ev (eCall m_mean_is_whole [eV 2]), .ev (eOp oEq [.ev (eOp oMod [.ev (eOp oSum [.pk 2]), .pk 3]), .ev (eC (.int 0))])])) (tOf (eOp oNe [.ev (eCall m_greatest [eV 2]), .ev (eOp oMax [.pk 2])])))) (sSeq [sRet (eC (.bool false))]) (sSeq []), sIf (tOf (eOp oNe [.ev (eCall m_counts_of [eV 2]), .ev (eLc (itV (eOp oSSet [.pk 2])) [18] (gN 18) (tYs) (eVs oTup [eV 18, eOp oLen [.ev (eLc (itV (eV 2)) [4] (gN 4) (tOf (eOp oEq [.pk 4, .pk 18])) (eV 4))]]))])) (sSeq [sRet (eC (.bool false))]) (sSeq []), sAsg (gN 14) (eVs oLst []), sAsg (gN 15) (eVs oLst []), sFor (itR1 (.pk 3)) (gN 16) (sSeq [sAsg (gN 18) (eOp oIx [.pk 2, .pk 16]), sFor (itR1 (.pk 3)) (gN 4) (sSeq [sIf (tOf (eOp oIn [.ev (eOp oMod [.ev (eOp oAdd [.pk 16, .pk 18]), .pk 3]), .pk 15])) (sSeq [sAsg (gN 18) (eOp oAdd [.pk 18, .ev (eC (.int 1))])]) (sSeq [])]), sEx (eMt "list" 15 mAppend [eOp oMod [.ev (eOp oAdd [.pk 16, .pk 18]), .pk 3]]), sEx (eMt "list" 14 mAppend [eV 18])]), sIf (tOr (tOf (eOp oNe [.ev (eCall m_put_right [eV 2]), .ev (eOp oTuple [.pk 14])])) (tOf (eOp oIsNot [.ev (eCall m__law_clash [eOp oTuple [.pk 14]]), .ev (eC .none)]))) (sSeq [sRet (eC (.bool false))]) (sSeq [])]), sAsg (gN 3) (eOp oLen [.pk 7]), sFor (itR1 (.ev (eC (.int 8)))) (gN 4) (sSeq [sAsg (gN 16) (eOp oSub [.ev (eCallI m__law_next 1 [eC (.int 200)]), .ev (eC (.int 100))]), sIf (tOr (tOf (eOp oNe [.ev (eCall m_height_at [eV 7, eV 16]), .ev (eOp oIx [.pk 7, .ev (eOp oMod [.pk 16, .pk 3])])])) (tOf (eOp oNe [.ev (eCall m_lands [eV 7, eV 16]), .ev (eOp oAdd [.pk 16, .ev (eOp oIx [.pk 7, .ev (eOp oMod [.pk 16, .pk 3])])])]))) (sSeq [sRet (eC (.bool false))]) (sSeq []), sAsg (gN 17) (eLc (itR1 (.ev (eC (.int 36)))) [19] (gN 19) (tOf (eOp oEq [.ev (eOp oIx [.pk 7, .ev (eOp oMod [.ev (eOp oSub [.pk 16, .pk 19]), .pk 3])]), .pk 19])) (eV 19)), sIf (tOr (tOf (eOp oNe [.ev (eCall m_thrown_at [eV 7, eV 16]), .ev (eOp oSub [.pk 16, .ev (eOp oIx [.pk 17, .ev (eC (.int 0))])])])) (tOf (eOp oNe [.ev (eOp oLen [.pk 17]), .ev (eC (.int 1))]))) (sSeq [sRet (eC (.bool false))]) (sSeq []), sIf (tOr (tOf (eOp oNe [.ev (eCall m_in_air [eV 7, eV 16]), .ev (eOp oLen [.ev (eLc (itR1 (.ev (eC (.int 36)))) [19] (gN 19) (tOf (eOp oGt [.ev (eOp oIx [.pk 7, .ev (eOp oMod [.ev (eOp oSub [.pk 16, .pk 19]), .pk 3])]), .pk 19])) (eV 19))])])) (tOf (eOp oNe [.ev (eCall m_in_air [eV 7, eV 16]), .ev (eOp oDiv [.ev (eOp oSum [.pk 7]), .pk 3])]))) (sSeq [sRet (eC (.bool false))]) (sSeq [])]), sAsg (gN 5) (eOp oTuple [.ev (eLc (itV (eCallI m__law_order 1 [eV 3])) [4] (gN 4) (tYs) (eOp oIx [.pk 7, .pk 4]))]), sIf (tOr (tOf (eOp oIsNot [.ev (eCall m_same_throws [eV 7, eV 5]), .ev (eC (.bool true))])) (tOf (eOp oNe [.ev (eCall m_same_throws [eV 7, eV 8]), .ev (eOp oEq [.ev (eOp oSort [.pk 7]), .ev (eOp oSort [.pk 8])])]))) (sSeq [sRet (eC (.bool false))]) (sSeq []), sAsg (gN 6) (eVs oLst [eVs oTup [eC (.int 3)], eVs oTup [eC (.int 5), eC (.int 3), eC (.int 1)], eVs oTup [], eVs oLst [eC (.int 3)], eVs oTup [eC (.int 36)], eVs oTup [eOp oNeg [.ev (eC (.int 1))]], eVs oTup [eC (.bool true)], eOp oMul [.ev (eVs oTup [eC (.int 1)]), .ev (eC (.int 31))], eC .none]), sRet (eOp oEq [.ev (eLc (itV (eV 6)) [20] (gN 20) (tYs) (eCall m_is_row [eV 20])), .ev (eOp oAdd [.ev (eVs oLst [eC (.bool true), eC (.bool true)]), .ev (eOp oMul [.ev (eVs oLst [eC (.bool false)]), .ev (eC (.int 7))])])])]
def m_law : FnV := fn 23 1 (sSeq s_law)
def n_law : List Str := ["script", "box", "one", "many", "k", "mixed", "values", "row", "drawn", "pair", "told", "source", "due", "deed", "made", "taken", "beat", "back", "height", "j", "value", "early", "some"]
def p_law : List Str := ["script"]
theorem f_law : FnScope n_law p_law (defScope (top 34)) := ⟨rfl, rfl, rfl, by decide, rfl, by decide, by decide⟩
theorem w_law (F : ∀ x, x ∈ blts → mg x = none) (q__law_box : CalP P w K mg base 2 "_law_box" 1 (SpV K T m__law_box)) (q__law_clash : CalP P w K mg base 1 "_law_clash" 1 (SpV K T m__law_clash)) (q__law_fraction : CalP P w K mg base 2 "_law_fraction" 2 (SpV K T m__law_fraction)) (q__law_next : CalP P w K mg base 1 "_law_next" 2 (SpI K T m__law_next)) (q__law_order : CalP P w K mg base 2 "_law_order" 2 (SpI K T m__law_order)) (q__law_row : CalP P w K mg base 2 "_law_row" 3 (SpI K T m__law_row)) (q__law_some : CalP P w K mg base 2 "_law_some" 3 (SpI K T m__law_some)) (q__law_told : CalP P w K mg base 5 "_law_told" 2 (SpV K T m__law_told)) (q_average : CalP P w K mg base 1 "average" 1 (SpV K T m_average)) (q_can_be_juggled : CalP P w K mg base 3 "can_be_juggled" 1 (SpV K T m_can_be_juggled)) (q_clash : CalP P w K mg base 2 "clash" 1 (SpV K T m_clash)) (q_counts_of : CalP P w K mg base 1 "counts_of" 1 (SpV K T m_counts_of)) (q_greatest : CalP P w K mg base 1 "greatest" 1 (SpV K T m_greatest)) (q_height_at : CalP P w K mg base 1 "height_at" 2 (SpV K T m_height_at)) (q_in_air : CalP P w K mg base 4 "in_air" 2 (SpV K T m_in_air)) (q_is_row : CalP P w K mg base 1 "is_row" 1 (SpV K T m_is_row)) (q_landings : CalP P w K mg base 1 "landings" 1 (SpV K T m_landings)) (q_lands : CalP P w K mg base 2 "lands" 2 (SpV K T m_lands)) (q_mean_is_whole : CalP P w K mg base 1 "mean_is_whole" 1 (SpV K T m_mean_is_whole)) (q_put_right : CalP P w K mg base 1 "put_right" 1 (SpV K T m_put_right)) (q_same_throws : CalP P w K mg base 1 "same_throws" 2 (SpV K T m_same_throws)) (q_thrown_at : CalP P w K mg base 5 "thrown_at" 2 (SpV K T m_thrown_at)) {qual : Str} {f : Addr} (cdv : Value) (A : Around) (outer : List Env) (s : Shared) (H : Hp) (E : XK) (hr : Room 5 (A.deeper (envOfC qual (defScope (top 34)) s.heap.objs.size f cdv))) :
    SSs (DCx P w K mg base n_law qual (defScope (top 34)) f cdv A outer s H E) T (WD E) (defBody (top 34)) s_law :=
  have g := go_def (P := P) (w := w) (K := K) (mg := mg) (base := base) (outer := outer) (H := H) (E := E) f_law hr
  (sss_cons (ss_asg (se_call ⟨q__law_box⟩ (g.hr.mono (by decide)) rfl g.tk (svs_cons (se_v (i := 0) rfl (by first | exact .inl rfl | exact .inr (.inl rfl) | exact .inr (.inr rfl))) svs_nil)) (sg_n g.nd rfl (by first | exact .inl rfl | exact .inr rfl)))
    (sss_cons (ss_asg (se_tup (svs_cons (se_callI (i := 1) ⟨q__law_row⟩ (g.hr.mono (by decide)) rfl g.tk rfl (by first | exact .inl rfl | exact .inr (.inl rfl) | exact .inr (.inr rfl)) (svs_cons se_int (svs_cons se_int svs_nil))) (svs_cons (se_callI (i := 1) ⟨q__law_some⟩ (g.hr.mono (by decide)) rfl g.tk rfl (by first | exact .inl rfl | exact .inr (.inl rfl) | exact .inr (.inr rfl)) (svs_cons se_int (svs_cons se_int svs_nil))) svs_nil))) (sg_t g.cm (sgs_cons (sg_n g.nd rfl (by first | exact .inl rfl | exact .inr rfl)) (sgs_cons (sg_n g.nd rfl (by first | exact .inl rfl | exact .inr rfl)) sgs_nil))))
    (sss_cons (ss_for po_def g.cm (si_v (se_tup (svs_cons (se_v (i := 7) rfl (by first | exact .inl rfl | exact .inr (.inl rfl) | exact .inr (.inr rfl))) (svs_cons (se_v (i := 8) rfl (by first | exact .inl rfl | exact .inr (.inl rfl) | exact .inr (.inr rfl))) svs_nil)))) (sg_n g.nd rfl (by first | exact .inl rfl | exact .inr rfl))
    (sss_cons (ss_asg (se_len rfl (F "len" (by decide)) (sa_pk (i := 2) rfl (by first | exact .inl rfl | exact .inr (.inl rfl) | exact .inr (.inr rfl)))) (sg_n g.nd rfl (by first | exact .inl rfl | exact .inr rfl)))
    (sss_cons (ss_asg (se_call ⟨q__law_clash⟩ (g.hr.mono (by decide)) rfl g.tk (svs_cons (se_v (i := 2) rfl (by first | exact .inl rfl | exact .inr (.inl rfl) | exact .inr (.inr rfl))) svs_nil)) (sg_n g.nd rfl (by first | exact .inl rfl | exact .inr rfl)))
    (sss_cons (ss_if (st_w (sw_or (st_cmp rc_isnot d_isnot (sa_ev (se_call ⟨q_is_row⟩ (g.hr.mono (by decide)) rfl g.tk (svs_cons (se_v (i := 2) rfl (by first | exact .inl rfl | exact .inr (.inl rfl) | exact .inr (.inr rfl))) svs_nil))) (sa_ev se_bl) rfl) (sw_or (st_cmp (rc_ne g) d_ne (sa_ev (se_call ⟨q_landings⟩ (g.hr.mono (by decide)) rfl g.tk (svs_cons (se_v (i := 2) rfl (by first | exact .inl rfl | exact .inr (.inl rfl) | exact .inr (.inr rfl))) svs_nil))) (sa_ev (se_lcG (own := [("beat", 16)]) g (si_r1 rfl (F "range" (by decide)) (sa_pk (i := 3) rfl (by first | exact .inl rfl | exact .inr (.inl rfl) | exact .inr (.inr rfl)))) rfl (fun zs zH zC zl zf g => (sgw_n (by decide) g.nd rfl (by first | exact .inl rfl | exact .inr rfl))) (fun zs zH zC zl zf g => pts_no) (fun zs zH zC zl zf g => (se_mod (sa_ev (se_add (sa_pk (i := 16) rfl (by first | exact .inl rfl | exact .inr (.inl rfl) | exact .inr (.inr rfl))) (sa_ev (se_item g (sa_pk (i := 2) rfl (by first | exact .inl rfl | exact .inr (.inl rfl) | exact .inr (.inr rfl))) (sa_pk (i := 16) rfl (by first | exact .inl rfl | exact .inr (.inl rfl) | exact .inr (.inr rfl))))))) (sa_pk (i := 3) rfl (by first | exact .inl rfl | exact .inr (.inl rfl) | exact .inr (.inr rfl))))))) rfl) (sw_or1 (st_cmp (rc_ne g) d_ne (sa_ev (se_call ⟨q_clash⟩ (g.hr.mono (by decide)) rfl g.tk (svs_cons (se_v (i := 2) rfl (by first | exact .inl rfl | exact .inr (.inl rfl) | exact .inr (.inr rfl))) svs_nil))) (sa_pk (i := 9) rfl (by first | exact .inl rfl | exact .inr (.inl rfl) | exact .inr (.inr rfl))) rfl)))))
    (sss_cons (ss_ret se_bl)
    sss_nil)
    sss_nil)
    (sss_cons (ss_asg (se_call ⟨q_can_be_juggled⟩ (g.hr.mono (by decide)) rfl g.tk (svs_cons (se_v (i := 2) rfl (by first | exact .inl rfl | exact .inr (.inl rfl) | exact .inr (.inr rfl))) svs_nil)) (sg_n g.nd rfl (by first | exact .inl rfl | exact .inr rfl)))
    (sss_cons (ss_if (st_w (sw_or (st_no (st_ar (sa_ev (se_isa rfl (F "isinstance" (by decide)) rfl (F "bool" (by decide)) (by decide +kernel) (sa_pk (i := 10) rfl (by first | exact .inl rfl | exact .inr (.inl rfl) | exact .inr (.inr rfl))))))) (sw_or1 (st_cmp (rc_ne g) d_ne (sa_pk (i := 10) rfl (by first | exact .inl rfl | exact .inr (.inl rfl) | exact .inr (.inr rfl))) (sa_ev (se_cmp rc_is d_is (sa_pk (i := 9) rfl (by first | exact .inl rfl | exact .inr (.inl rfl) | exact .inr (.inr rfl))) (sa_ev se_non) rfl)) rfl))))
    (sss_cons (ss_ret se_bl)
    sss_nil)
    sss_nil)
    (sss_cons (ss_lcG (i := 11) (own := [("beat", 16)]) g rfl rfl rfl (si_r1 rfl (F "range" (by decide)) (sa_pk (i := 3) rfl (by first | exact .inl rfl | exact .inr (.inl rfl) | exact .inr (.inr rfl)))) rfl (fun zs zH zC zl zf g => (sgw_n (by decide) g.nd rfl (by first | exact .inl rfl | exact .inr rfl))) (fun zs zH zC zl zf g => pts_no) (fun zs zH zC zl zf g => (se_lcG (own := [("early", 21)]) g (si_r1 rfl (F "range" (by decide)) (sa_pk (i := 3) rfl (by first | exact .inl rfl | exact .inr (.inl rfl) | exact .inr (.inr rfl)))) rfl (fun zs zH zC zl zf g => (sgw_n (by decide) g.nd rfl (by first | exact .inl rfl | exact .inr rfl))) (fun zs zH zC zl zf g => (pts_st (st_cmp (rc_eq g) d_eq (sa_ev (se_mod (sa_ev (se_add (sa_pk (i := 21) rfl (by first | exact .inl rfl | exact .inr (.inl rfl) | exact .inr (.inr rfl))) (sa_ev (se_item g (sa_pk (i := 2) rfl (by first | exact .inl rfl | exact .inr (.inl rfl) | exact .inr (.inr rfl))) (sa_pk (i := 21) rfl (by first | exact .inl rfl | exact .inr (.inl rfl) | exact .inr (.inr rfl))))))) (sa_pk (i := 3) rfl (by first | exact .inl rfl | exact .inr (.inl rfl) | exact .inr (.inr rfl))))) (sa_pk (i := 16) rfl (by first | exact .inl rfl | exact .inr (.inl rfl) | exact .inr (.inr rfl))) rfl))) (fun zs zH zC zl zf g => (se_v (i := 21) rfl (by first | exact .inl rfl | exact .inr (.inl rfl) | exact .inr (.inr rfl)))))))
    (sss_cons (ss_asg (se_lst (svs_cons (se_div (sa_ev (se_sum g rfl (F "sum" (by decide)) (sa_pk (i := 2) rfl (by first | exact .inl rfl | exact .inr (.inl rfl) | exact .inr (.inr rfl))))) (sa_pk (i := 3) rfl (by first | exact .inl rfl | exact .inr (.inl rfl) | exact .inr (.inr rfl)))) (svs_cons se_non (svs_cons (se_lcG (own := [("some", 22)]) g (si_v (se_v (i := 11) rfl (by first | exact .inl rfl | exact .inr (.inl rfl) | exact .inr (.inr rfl)))) rfl (fun zs zH zC zl zf g => (sgw_n (by decide) g.nd rfl (by first | exact .inl rfl | exact .inr rfl))) (fun zs zH zC zl zf g => pts_no) (fun zs zH zC zl zf g => (se_if (st_cmp rc_gt d_gt (sa_ev (se_len rfl (F "len" (by decide)) (sa_pk (i := 22) rfl (by first | exact .inl rfl | exact .inr (.inl rfl) | exact .inr (.inr rfl))))) (sa_ev se_int) rfl) (se_item g (sa_pk (i := 22) rfl (by first | exact .inl rfl | exact .inr (.inl rfl) | exact .inr (.inr rfl))) (sa_ev se_int)) se_non))) svs_nil)))) (sg_n g.nd rfl (by first | exact .inl rfl | exact .inr rfl)))
    (sss_cons (ss_for po_def g.cm (si_r1 rfl (F "range" (by decide)) (sa_ev se_int)) (sg_n g.nd rfl (by first | exact .inl rfl | exact .inr rfl))
    (sss_cons (ss_if (st_cmp (rc_ne g) d_ne (sa_ev (se_call ⟨q__law_told⟩ (g.hr.mono (by decide)) rfl g.tk (svs_cons (se_v (i := 2) rfl (by first | exact .inl rfl | exact .inr (.inl rfl) | exact .inr (.inr rfl))) (svs_cons (se_v (i := 13) rfl (by first | exact .inl rfl | exact .inr (.inl rfl) | exact .inr (.inr rfl))) svs_nil)))) (sa_ev (se_if (st_cmp rc_is d_is (sa_pk (i := 9) rfl (by first | exact .inl rfl | exact .inr (.inl rfl) | exact .inr (.inr rfl))) (sa_ev se_non) rfl) (se_item g (sa_pk (i := 12) rfl (by first | exact .inl rfl | exact .inr (.inl rfl) | exact .inr (.inr rfl))) (sa_pk (i := 13) rfl (by first | exact .inl rfl | exact .inr (.inl rfl) | exact .inr (.inr rfl)))) (se_lst (svs_cons se_str (svs_cons (se_item g (sa_pk (i := 9) rfl (by first | exact .inl rfl | exact .inr (.inl rfl) | exact .inr (.inr rfl))) (sa_ev se_int)) (svs_cons se_bl svs_nil)))))) rfl)
    (sss_cons (ss_ret se_bl)
    sss_nil)
    sss_nil)
    sss_nil))
    (sss_cons (ss_if (st_w (sw_or (st_cmp (rc_ne g) d_ne (sa_ev (se_call ⟨q_average⟩ (g.hr.mono (by decide)) rfl g.tk (svs_cons (se_v (i := 2) rfl (by first | exact .inl rfl | exact .inr (.inl rfl) | exact .inr (.inr rfl))) svs_nil))) (sa_ev (se_call ⟨q__law_fraction⟩ (g.hr.mono (by decide)) rfl g.tk (svs_cons (se_sum g rfl (F "sum" (by decide)) (sa_pk (i := 2) rfl (by first | exact .inl rfl | exact .inr (.inl rfl) | exact .inr (.inr rfl)))) (svs_cons (se_v (i := 3) rfl (by first | exact .inl rfl | exact .inr (.inl rfl) | exact .inr (.inr rfl))) svs_nil)))) rfl) (sw_or (st_cmp (rc_ne g) d_ne (sa_ev (se_call ⟨q_mean_is_whole⟩ (g.hr.mono (by decide)) rfl g.tk (svs_cons (se_v (i := 2) rfl (by first | exact .inl rfl | exact .inr (.inl rfl) | exact .inr (.inr rfl))) svs_nil))) (sa_ev (se_cmp (rc_eq g) d_eq (sa_ev (se_mod (sa_ev (se_sum g rfl (F "sum" (by decide)) (sa_pk (i := 2) rfl (by first | exact .inl rfl | exact .inr (.inl rfl) | exact .inr (.inr rfl))))) (sa_pk (i := 3) rfl (by first | exact .inl rfl | exact .inr (.inl rfl) | exact .inr (.inr rfl))))) (sa_ev se_int) rfl)) rfl) (sw_or1 (st_cmp (rc_ne g) d_ne (sa_ev (se_call ⟨q_greatest⟩ (g.hr.mono (by decide)) rfl g.tk (svs_cons (se_v (i := 2) rfl (by first | exact .inl rfl | exact .inr (.inl rfl) | exact .inr (.inr rfl))) svs_nil))) (sa_ev (se_max g rfl (F "max" (by decide)) (sa_pk (i := 2) rfl (by first | exact .inl rfl | exact .inr (.inl rfl) | exact .inr (.inr rfl))))) rfl)))))
    (sss_cons (ss_ret se_bl)
    sss_nil)
    sss_nil)
    (sss_cons (ss_if (st_cmp (rc_ne g) d_ne (sa_ev (se_call ⟨q_counts_of⟩ (g.hr.mono (by decide)) rfl g.tk (svs_cons (se_v (i := 2) rfl (by first | exact .inl rfl | exact .inr (.inl rfl) | exact .inr (.inr rfl))) svs_nil))) (sa_ev (se_lcG (own := [("height", 18)]) g (si_v (se_sset g.cm rfl (F "sorted" (by decide)) rfl (F "set" (by decide)) (sa_pk (i := 2) rfl (by first | exact .inl rfl | exact .inr (.inl rfl) | exact .inr (.inr rfl))))) rfl (fun zs zH zC zl zf g => (sgw_n (by decide) g.nd rfl (by first | exact .inl rfl | exact .inr rfl))) (fun zs zH zC zl zf g => pts_no) (fun zs zH zC zl zf g => (se_tup (svs_cons (se_v (i := 18) rfl (by first | exact .inl rfl | exact .inr (.inl rfl) | exact .inr (.inr rfl))) (svs_cons (se_len rfl (F "len" (by decide)) (sa_ev (se_lcG (own := [("k", 4)]) g (si_v (se_v (i := 2) rfl (by first | exact .inl rfl | exact .inr (.inl rfl) | exact .inr (.inr rfl)))) rfl (fun zs zH zC zl zf g => (sgw_n (by decide) g.nd rfl (by first | exact .inl rfl | exact .inr rfl))) (fun zs zH zC zl zf g => (pts_st (st_cmp (rc_eq g) d_eq (sa_pk (i := 4) rfl (by first | exact .inl rfl | exact .inr (.inl rfl) | exact .inr (.inr rfl))) (sa_pk (i := 18) rfl (by first | exact .inl rfl | exact .inr (.inl rfl) | exact .inr (.inr rfl))) rfl))) (fun zs zH zC zl zf g => (se_v (i := 4) rfl (by first | exact .inl rfl | exact .inr (.inl rfl) | exact .inr (.inr rfl))))))) svs_nil)))))) rfl)
    (sss_cons (ss_ret se_bl)
    sss_nil)
    sss_nil)
    (sss_cons (ss_asg (se_lst svs_nil) (sg_n g.nd rfl (by first | exact .inl rfl | exact .inr rfl)))
    (sss_cons (ss_asg (se_lst svs_nil) (sg_n g.nd rfl (by first | exact .inl rfl | exact .inr rfl)))
    (sss_cons (ss_for po_def g.cm (si_r1 rfl (F "range" (by decide)) (sa_pk (i := 3) rfl (by first | exact .inl rfl | exact .inr (.inl rfl) | exact .inr (.inr rfl)))) (sg_n g.nd rfl (by first | exact .inl rfl | exact .inr rfl))
    (sss_cons (ss_asg (se_item g (sa_pk (i := 2) rfl (by first | exact .inl rfl | exact .inr (.inl rfl) | exact .inr (.inr rfl))) (sa_pk (i := 16) rfl (by first | exact .inl rfl | exact .inr (.inl rfl) | exact .inr (.inr rfl)))) (sg_n g.nd rfl (by first | exact .inl rfl | exact .inr rfl)))
    (sss_cons (ss_for po_def g.cm (si_r1 rfl (F "range" (by decide)) (sa_pk (i := 3) rfl (by first | exact .inl rfl | exact .inr (.inl rfl) | exact .inr (.inr rfl)))) (sg_n g.nd rfl (by first | exact .inl rfl | exact .inr rfl))
    (sss_cons (ss_if (st_cmp (rc_in g) d_in (sa_ev (se_mod (sa_ev (se_add (sa_pk (i := 16) rfl (by first | exact .inl rfl | exact .inr (.inl rfl) | exact .inr (.inr rfl))) (sa_pk (i := 18) rfl (by first | exact .inl rfl | exact .inr (.inl rfl) | exact .inr (.inr rfl))))) (sa_pk (i := 3) rfl (by first | exact .inl rfl | exact .inr (.inl rfl) | exact .inr (.inr rfl))))) (sa_pk (i := 15) rfl (by first | exact .inl rfl | exact .inr (.inl rfl) | exact .inr (.inr rfl))) rfl)
    (sss_cons (ss_asg (se_add (sa_pk (i := 18) rfl (by first | exact .inl rfl | exact .inr (.inl rfl) | exact .inr (.inr rfl))) (sa_ev se_int)) (sg_n g.nd rfl (by first | exact .inl rfl | exact .inr rfl)))
    sss_nil)
    sss_nil)
    sss_nil))
    (sss_cons (ss_ex (se_append (i := 15) rfl (by first | exact .inl rfl | exact .inr (.inl rfl) | exact .inr (.inr rfl)) (se_mod (sa_ev (se_add (sa_pk (i := 16) rfl (by first | exact .inl rfl | exact .inr (.inl rfl) | exact .inr (.inr rfl))) (sa_pk (i := 18) rfl (by first | exact .inl rfl | exact .inr (.inl rfl) | exact .inr (.inr rfl))))) (sa_pk (i := 3) rfl (by first | exact .inl rfl | exact .inr (.inl rfl) | exact .inr (.inr rfl))))))
    (sss_cons (ss_ex (se_append (i := 14) rfl (by first | exact .inl rfl | exact .inr (.inl rfl) | exact .inr (.inr rfl)) (se_v (i := 18) rfl (by first | exact .inl rfl | exact .inr (.inl rfl) | exact .inr (.inr rfl)))))
    sss_nil)))))
    (sss_cons (ss_if (st_w (sw_or (st_cmp (rc_ne g) d_ne (sa_ev (se_call ⟨q_put_right⟩ (g.hr.mono (by decide)) rfl g.tk (svs_cons (se_v (i := 2) rfl (by first | exact .inl rfl | exact .inr (.inl rfl) | exact .inr (.inr rfl))) svs_nil))) (sa_ev (se_totup rfl (F "tuple" (by decide)) (sa_pk (i := 14) rfl (by first | exact .inl rfl | exact .inr (.inl rfl) | exact .inr (.inr rfl))))) rfl) (sw_or1 (st_cmp rc_isnot d_isnot (sa_ev (se_call ⟨q__law_clash⟩ (g.hr.mono (by decide)) rfl g.tk (svs_cons (se_totup rfl (F "tuple" (by decide)) (sa_pk (i := 14) rfl (by first | exact .inl rfl | exact .inr (.inl rfl) | exact .inr (.inr rfl)))) svs_nil))) (sa_ev se_non) rfl))))
    (sss_cons (ss_ret se_bl)
    sss_nil)
    sss_nil)
    sss_nil)))))))))))))))
    (sss_cons (ss_asg (se_len rfl (F "len" (by decide)) (sa_pk (i := 7) rfl (by first | exact .inl rfl | exact .inr (.inl rfl) | exact .inr (.inr rfl)))) (sg_n g.nd rfl (by first | exact .inl rfl | exact .inr rfl)))
    (sss_cons (ss_for po_def g.cm (si_r1 rfl (F "range" (by decide)) (sa_ev se_int)) (sg_n g.nd rfl (by first | exact .inl rfl | exact .inr rfl))
    (sss_cons (ss_asg (se_sub (sa_ev (se_callI (i := 1) ⟨q__law_next⟩ (g.hr.mono (by decide)) rfl g.tk rfl (by first | exact .inl rfl | exact .inr (.inl rfl) | exact .inr (.inr rfl)) (svs_cons se_int svs_nil))) (sa_ev se_int)) (sg_n g.nd rfl (by first | exact .inl rfl | exact .inr rfl)))
    (sss_cons (ss_if (st_w (sw_or (st_cmp (rc_ne g) d_ne (sa_ev (se_call ⟨q_height_at⟩ (g.hr.mono (by decide)) rfl g.tk (svs_cons (se_v (i := 7) rfl (by first | exact .inl rfl | exact .inr (.inl rfl) | exact .inr (.inr rfl))) (svs_cons (se_v (i := 16) rfl (by first | exact .inl rfl | exact .inr (.inl rfl) | exact .inr (.inr rfl))) svs_nil)))) (sa_ev (se_item g (sa_pk (i := 7) rfl (by first | exact .inl rfl | exact .inr (.inl rfl) | exact .inr (.inr rfl))) (sa_ev (se_mod (sa_pk (i := 16) rfl (by first | exact .inl rfl | exact .inr (.inl rfl) | exact .inr (.inr rfl))) (sa_pk (i := 3) rfl (by first | exact .inl rfl | exact .inr (.inl rfl) | exact .inr (.inr rfl))))))) rfl) (sw_or1 (st_cmp (rc_ne g) d_ne (sa_ev (se_call ⟨q_lands⟩ (g.hr.mono (by decide)) rfl g.tk (svs_cons (se_v (i := 7) rfl (by first | exact .inl rfl | exact .inr (.inl rfl) | exact .inr (.inr rfl))) (svs_cons (se_v (i := 16) rfl (by first | exact .inl rfl | exact .inr (.inl rfl) | exact .inr (.inr rfl))) svs_nil)))) (sa_ev (se_add (sa_pk (i := 16) rfl (by first | exact .inl rfl | exact .inr (.inl rfl) | exact .inr (.inr rfl))) (sa_ev (se_item g (sa_pk (i := 7) rfl (by first | exact .inl rfl | exact .inr (.inl rfl) | exact .inr (.inr rfl))) (sa_ev (se_mod (sa_pk (i := 16) rfl (by first | exact .inl rfl | exact .inr (.inl rfl) | exact .inr (.inr rfl))) (sa_pk (i := 3) rfl (by first | exact .inl rfl | exact .inr (.inl rfl) | exact .inr (.inr rfl))))))))) rfl))))
    (sss_cons (ss_ret se_bl)
    sss_nil)
    sss_nil)
    (sss_cons (ss_lcG (i := 17) (own := [("j", 19)]) g rfl rfl rfl (si_r1 rfl (F "range" (by decide)) (sa_ev se_int)) rfl (fun zs zH zC zl zf g => (sgw_n (by decide) g.nd rfl (by first | exact .inl rfl | exact .inr rfl))) (fun zs zH zC zl zf g => (pts_st (st_cmp (rc_eq g) d_eq (sa_ev (se_item g (sa_pk (i := 7) rfl (by first | exact .inl rfl | exact .inr (.inl rfl) | exact .inr (.inr rfl))) (sa_ev (se_mod (sa_ev (se_sub (sa_pk (i := 16) rfl (by first | exact .inl rfl | exact .inr (.inl rfl) | exact .inr (.inr rfl))) (sa_pk (i := 19) rfl (by first | exact .inl rfl | exact .inr (.inl rfl) | exact .inr (.inr rfl))))) (sa_pk (i := 3) rfl (by first | exact .inl rfl | exact .inr (.inl rfl) | exact .inr (.inr rfl))))))) (sa_pk (i := 19) rfl (by first | exact .inl rfl | exact .inr (.inl rfl) | exact .inr (.inr rfl))) rfl))) (fun zs zH zC zl zf g => (se_v (i := 19) rfl (by first | exact .inl rfl | exact .inr (.inl rfl) | exact .inr (.inr rfl)))))
    (sss_cons (ss_if (st_w (sw_or (st_cmp (rc_ne g) d_ne (sa_ev (se_call ⟨q_thrown_at⟩ (g.hr.mono (by decide)) rfl g.tk (svs_cons (se_v (i := 7) rfl (by first | exact .inl rfl | exact .inr (.inl rfl) | exact .inr (.inr rfl))) (svs_cons (se_v (i := 16) rfl (by first | exact .inl rfl | exact .inr (.inl rfl) | exact .inr (.inr rfl))) svs_nil)))) (sa_ev (se_sub (sa_pk (i := 16) rfl (by first | exact .inl rfl | exact .inr (.inl rfl) | exact .inr (.inr rfl))) (sa_ev (se_item g (sa_pk (i := 17) rfl (by first | exact .inl rfl | exact .inr (.inl rfl) | exact .inr (.inr rfl))) (sa_ev se_int))))) rfl) (sw_or1 (st_cmp (rc_ne g) d_ne (sa_ev (se_len rfl (F "len" (by decide)) (sa_pk (i := 17) rfl (by first | exact .inl rfl | exact .inr (.inl rfl) | exact .inr (.inr rfl))))) (sa_ev se_int) rfl))))
    (sss_cons (ss_ret se_bl)
    sss_nil)
    sss_nil)
    (sss_cons (ss_if (st_w (sw_or (st_cmp (rc_ne g) d_ne (sa_ev (se_call ⟨q_in_air⟩ (g.hr.mono (by decide)) rfl g.tk (svs_cons (se_v (i := 7) rfl (by first | exact .inl rfl | exact .inr (.inl rfl) | exact .inr (.inr rfl))) (svs_cons (se_v (i := 16) rfl (by first | exact .inl rfl | exact .inr (.inl rfl) | exact .inr (.inr rfl))) svs_nil)))) (sa_ev (se_len rfl (F "len" (by decide)) (sa_ev (se_lcG (own := [("j", 19)]) g (si_r1 rfl (F "range" (by decide)) (sa_ev se_int)) rfl (fun zs zH zC zl zf g => (sgw_n (by decide) g.nd rfl (by first | exact .inl rfl | exact .inr rfl))) (fun zs zH zC zl zf g => (pts_st (st_cmp rc_gt d_gt (sa_ev (se_item g (sa_pk (i := 7) rfl (by first | exact .inl rfl | exact .inr (.inl rfl) | exact .inr (.inr rfl))) (sa_ev (se_mod (sa_ev (se_sub (sa_pk (i := 16) rfl (by first | exact .inl rfl | exact .inr (.inl rfl) | exact .inr (.inr rfl))) (sa_pk (i := 19) rfl (by first | exact .inl rfl | exact .inr (.inl rfl) | exact .inr (.inr rfl))))) (sa_pk (i := 3) rfl (by first | exact .inl rfl | exact .inr (.inl rfl) | exact .inr (.inr rfl))))))) (sa_pk (i := 19) rfl (by first | exact .inl rfl | exact .inr (.inl rfl) | exact .inr (.inr rfl))) rfl))) (fun zs zH zC zl zf g => (se_v (i := 19) rfl (by first | exact .inl rfl | exact .inr (.inl rfl) | exact .inr (.inr rfl)))))))) rfl) (sw_or1 (st_cmp (rc_ne g) d_ne (sa_ev (se_call ⟨q_in_air⟩ (g.hr.mono (by decide)) rfl g.tk (svs_cons (se_v (i := 7) rfl (by first | exact .inl rfl | exact .inr (.inl rfl) | exact .inr (.inr rfl))) (svs_cons (se_v (i := 16) rfl (by first | exact .inl rfl | exact .inr (.inl rfl) | exact .inr (.inr rfl))) svs_nil)))) (sa_ev (se_div (sa_ev (se_sum g rfl (F "sum" (by decide)) (sa_pk (i := 7) rfl (by first | exact .inl rfl | exact .inr (.inl rfl) | exact .inr (.inr rfl))))) (sa_pk (i := 3) rfl (by first | exact .inl rfl | exact .inr (.inl rfl) | exact .inr (.inr rfl))))) rfl))))
    (sss_cons (ss_ret se_bl)
    sss_nil)
    sss_nil)
    sss_nil))))))
    (sss_cons (ss_asg (se_totup rfl (F "tuple" (by decide)) (sa_ev (se_lcG (own := [("k", 4)]) g (si_v (se_callI (i := 1) ⟨q__law_order⟩ (g.hr.mono (by decide)) rfl g.tk rfl (by first | exact .inl rfl | exact .inr (.inl rfl) | exact .inr (.inr rfl)) (svs_cons (se_v (i := 3) rfl (by first | exact .inl rfl | exact .inr (.inl rfl) | exact .inr (.inr rfl))) svs_nil))) rfl (fun zs zH zC zl zf g => (sgw_n (by decide) g.nd rfl (by first | exact .inl rfl | exact .inr rfl))) (fun zs zH zC zl zf g => pts_no) (fun zs zH zC zl zf g => (se_item g (sa_pk (i := 7) rfl (by first | exact .inl rfl | exact .inr (.inl rfl) | exact .inr (.inr rfl))) (sa_pk (i := 4) rfl (by first | exact .inl rfl | exact .inr (.inl rfl) | exact .inr (.inr rfl)))))))) (sg_n g.nd rfl (by first | exact .inl rfl | exact .inr rfl)))
    (sss_cons (ss_if (st_w (sw_or (st_cmp rc_isnot d_isnot (sa_ev (se_call ⟨q_same_throws⟩ (g.hr.mono (by decide)) rfl g.tk (svs_cons (se_v (i := 7) rfl (by first | exact .inl rfl | exact .inr (.inl rfl) | exact .inr (.inr rfl))) (svs_cons (se_v (i := 5) rfl (by first | exact .inl rfl | exact .inr (.inl rfl) | exact .inr (.inr rfl))) svs_nil)))) (sa_ev se_bl) rfl) (sw_or1 (st_cmp (rc_ne g) d_ne (sa_ev (se_call ⟨q_same_throws⟩ (g.hr.mono (by decide)) rfl g.tk (svs_cons (se_v (i := 7) rfl (by first | exact .inl rfl | exact .inr (.inl rfl) | exact .inr (.inr rfl))) (svs_cons (se_v (i := 8) rfl (by first | exact .inl rfl | exact .inr (.inl rfl) | exact .inr (.inr rfl))) svs_nil)))) (sa_ev (se_cmp (rc_eq g) d_eq (sa_ev (se_sorted g rfl (F "sorted" (by decide)) (sa_pk (i := 7) rfl (by first | exact .inl rfl | exact .inr (.inl rfl) | exact .inr (.inr rfl))))) (sa_ev (se_sorted g rfl (F "sorted" (by decide)) (sa_pk (i := 8) rfl (by first | exact .inl rfl | exact .inr (.inl rfl) | exact .inr (.inr rfl))))) rfl)) rfl))))
    (sss_cons (ss_ret se_bl)
    sss_nil)
    sss_nil)
    (sss_cons (ss_asg (se_lst (svs_cons (se_tup (svs_cons se_int svs_nil)) (svs_cons (se_tup (svs_cons se_int (svs_cons se_int (svs_cons se_int svs_nil)))) (svs_cons (se_tup svs_nil) (svs_cons (se_lst (svs_cons se_int svs_nil)) (svs_cons (se_tup (svs_cons se_int svs_nil)) (svs_cons (se_tup (svs_cons (se_neg (sa_ev se_int)) svs_nil)) (svs_cons (se_tup (svs_cons se_bl svs_nil)) (svs_cons (se_mul (sa_ev (se_tup (svs_cons se_int svs_nil))) (sa_ev se_int)) (svs_cons se_non svs_nil)))))))))) (sg_n g.nd rfl (by first | exact .inl rfl | exact .inr rfl)))
    (sss_cons (ss_ret (se_cmp (rc_eq g) d_eq (sa_ev (se_lcG (own := [("value", 20)]) g (si_v (se_v (i := 6) rfl (by first | exact .inl rfl | exact .inr (.inl rfl) | exact .inr (.inr rfl)))) rfl (fun zs zH zC zl zf g => (sgw_n (by decide) g.nd rfl (by first | exact .inl rfl | exact .inr rfl))) (fun zs zH zC zl zf g => pts_no) (fun zs zH zC zl zf g => (se_call ⟨q_is_row⟩ (g.hr.mono (by decide)) rfl g.tk (svs_cons (se_v (i := 20) rfl (by first | exact .inl rfl | exact .inr (.inl rfl) | exact .inr (.inr rfl))) svs_nil))))) (sa_ev (se_add (sa_ev (se_lst (svs_cons se_bl (svs_cons se_bl svs_nil)))) (sa_ev (se_mul (sa_ev (se_lst (svs_cons se_bl svs_nil))) (sa_ev se_int))))) rfl))
    sss_nil)))))))))
end
end Py
end
section
set_option Elab.async false
set_option linter.all false
set_option maxRecDepth 100000
set_option maxHeartbeats 0
namespace Py
open PySem PySem.Spec PyProof.Rows L2

def d_is_row : He.DefD := ⟨("is_row", none), "is_row", "is_row", defArgs (top 6), defBody (top 6), defScope (top 6), [], []⟩
def d_landings : He.DefD := ⟨("landings", none), "landings", "landings", defArgs (top 7), defBody (top 7), defScope (top 7), [], []⟩
def d_clash : He.DefD := ⟨("clash", none), "clash", "clash", defArgs (top 8), defBody (top 8), defScope (top 8), [], []⟩
def d_can_be_juggled : He.DefD := ⟨("can_be_juggled", none), "can_be_juggled", "can_be_juggled", defArgs (top 9), defBody (top 9), defScope (top 9), [], []⟩
def d_check_row : He.DefD := ⟨("check_row", none), "check_row", "check_row", defArgs (top 10), defBody (top 10), defScope (top 10), [], []⟩
def d_balls : He.DefD := ⟨("balls", none), "balls", "balls", defArgs (top 11), defBody (top 11), defScope (top 11), [], []⟩
def d_moves : He.DefD := ⟨("moves", none), "moves", "moves", defArgs (top 12), defBody (top 12), defScope (top 12), [], []⟩
def d_height_at : He.DefD := ⟨("height_at", none), "height_at", "height_at", defArgs (top 13), defBody (top 13), defScope (top 13), [], []⟩
def d_lands : He.DefD := ⟨("lands", none), "lands", "lands", defArgs (top 14), defBody (top 14), defScope (top 14), [], []⟩
def d_thrown_at : He.DefD := ⟨("thrown_at", none), "thrown_at", "thrown_at", defArgs (top 15), defBody (top 15), defScope (top 15), [], []⟩
def d_in_air : He.DefD := ⟨("in_air", none), "in_air", "in_air", defArgs (top 16), defBody (top 16), defScope (top 16), [], []⟩
def d_average : He.DefD := ⟨("average", none), "average", "average", defArgs (top 17), defBody (top 17), defScope (top 17), [], []⟩
def d_mean_is_whole : He.DefD := ⟨("mean_is_whole", none), "mean_is_whole", "mean_is_whole", defArgs (top 18), defBody (top 18), defScope (top 18), [], []⟩
def d_put_right : He.DefD := ⟨("put_right", none), "put_right", "put_right", defArgs (top 19), defBody (top 19), defScope (top 19), [], []⟩
def d_same_throws : He.DefD := ⟨("same_throws", none), "same_throws", "same_throws", defArgs (top 20), defBody (top 20), defScope (top 20), [], []⟩
def d_counts_of : He.DefD := ⟨("counts_of", none), "counts_of", "counts_of", defArgs (top 21), defBody (top 21), defScope (top 21), [], []⟩
def d_greatest : He.DefD := ⟨("greatest", none), "greatest", "greatest", defArgs (top 22), defBody (top 22), defScope (top 22), [], []⟩
def d__law_draws : He.DefD := ⟨("_law_draws", none), "_law_draws", "_law_draws", defArgs (top 24), defBody (top 24), defScope (top 24), [], []⟩
def d__law_box : He.DefD := ⟨("_law_box", none), "_law_box", "_law_box", defArgs (top 25), defBody (top 25), defScope (top 25), [], []⟩
def d__law_next : He.DefD := ⟨("_law_next", none), "_law_next", "_law_next", defArgs (top 26), defBody (top 26), defScope (top 26), [], []⟩
def d__law_row : He.DefD := ⟨("_law_row", none), "_law_row", "_law_row", defArgs (top 27), defBody (top 27), defScope (top 27), [], []⟩
def d__law_some : He.DefD := ⟨("_law_some", none), "_law_some", "_law_some", defArgs (top 28), defBody (top 28), defScope (top 28), [], []⟩
def d__law_clash : He.DefD := ⟨("_law_clash", none), "_law_clash", "_law_clash", defArgs (top 29), defBody (top 29), defScope (top 29), [], []⟩
def d__law_order : He.DefD := ⟨("_law_order", none), "_law_order", "_law_order", defArgs (top 30), defBody (top 30), defScope (top 30), [], []⟩
def d__law_common : He.DefD := ⟨("_law_common", none), "_law_common", "_law_common", defArgs (top 31), defBody (top 31), defScope (top 31), [], []⟩
def d__law_fraction : He.DefD := ⟨("_law_fraction", none), "_law_fraction", "_law_fraction", defArgs (top 32), defBody (top 32), defScope (top 32), [], []⟩
def d__law_told : He.DefD := ⟨("_law_told", none), "_law_told", "_law_told", defArgs (top 33), defBody (top 33), defScope (top 33), [], []⟩
def d_law : He.DefD := ⟨("law", none), "law", "law", defArgs (top 34), defBody (top 34), defScope (top 34), [], []⟩
def fnL : List He.DefD := [d_is_row, d_landings, d_clash, d_can_be_juggled, d_check_row, d_balls, d_moves, d_height_at, d_lands, d_thrown_at, d_in_air, d_average, d_mean_is_whole, d_put_right, d_same_throws, d_counts_of, d_greatest, d__law_draws, d__law_box, d__law_next, d__law_row, d__law_some, d__law_clash, d__law_order, d__law_common, d__law_fraction, d__law_told, d_law]
def faR : List He.Fa := [.glo "is_row", .glo "landings", .glo "clash", .glo "can_be_juggled", .glo "check_row", .glo "balls", .glo "moves", .glo "height_at", .glo "lands", .glo "thrown_at", .glo "in_air", .glo "average", .glo "mean_is_whole", .glo "put_right", .glo "same_throws", .glo "counts_of", .glo "greatest", .glo "_law_draws", .glo "_law_box", .glo "_law_next", .glo "_law_row", .glo "_law_some", .glo "_law_clash", .glo "_law_order", .glo "_law_common", .glo "_law_fraction", .glo "_law_told", .glo "law", .int "MOST_LENGTH" 30, .int "MOST_HEIGHT" 35]
def faL : List He.Fa := faR ++ blts.map He.Fa.free
def clsAt (s : Stmt) (j : Nat) : Stmt := match s with
  | .ClassDef _ _ _ body _ _ _ _ _ _ _ => body.getD j (.Pass ⟨0, 0, 0, 0⟩)
  | _ => .Pass ⟨0, 0, 0, 0⟩
def i_Dropped : IniD := ⟨"Dropped", "beat", "__init__", "Dropped.__init__", defArgs (clsAt (top 2) 0), defBody (clsAt (top 2) 0), defScope (clsAt (top 2) 0)⟩
def iniL : List IniD := [i_Dropped]
def tfL : List He.Defn := [("is_row", none)]
def exL (K : Fr) : Bool := (iniB K "/claim/cut.py" "Dropped" "beat" && (tryB K "Dropped" ["Dropped"] "EvercaughtError" && true))
abbrev R0 : PySem.W.OpenRow := PySem.W.OpenLaw.row PySem.Challenge.rw_evercaught_k01_rows_that_can_be_juggled
abbrev hk : PySem.W.Hook := hookY 5 faL fnL iniL tfL exL
def ob (s : PySem.W.SharedT) : AlY := obsY 5 faL fnL iniL tfL exL (HandSHeadRun.getT s)
theorem ob_eq (s : PySem.W.SharedT) : ob s = hk.obs s.abs := obsY_eq (HandSHeadRun.getT_eq s)
def namesL : List PySem.Str := ["__name__", "EvercaughtError", "Dropped", "MOST_LENGTH", "MOST_HEIGHT", "is_row", "landings", "clash", "can_be_juggled", "check_row", "balls", "moves", "height_at", "lands", "thrown_at", "in_air", "average", "mean_is_whole", "put_right", "same_throws", "counts_of", "greatest", "_law_draws", "_law_box", "_law_next", "_law_row", "_law_some", "_law_clash", "_law_order", "_law_common", "_law_fraction", "_law_told"]
theorem run (w : World) : HandSHeadRun.RunEq R0 (PySem.W.view R0.prog [34]) hk ob 4000 namesL w := by
  intro os
  kernel_rfl
/-- the law's promise -/
theorem facts {P : Program} (hP : P = PySem.Challenge.pw_evercaught_k01_rows_that_can_be_juggled) {w : World} {K : Fr} {h : Heap} {mg : Str → Option Value} (X : K.In h) (G : h.Ns mainGlobals mg) (c : SaysY faL fnL iniL tfL exL h K) (T : List Addr) (hT : T = tfL.map fun p => (He.cT K p).2) :
    ∃ fd : FuncData, (∀ (s : Shared) (v : Value), BindsTo s fd ⟨[v], []⟩ [("script", v)]) ∧ ∀ base : Heap, (∀ p ∈ tfL.map (He.cT K), GxR.TabB base mg p.1 p.2) → FnOk P w K mg base (L2.CX P w) 6 (He.ga K "law") fd ["script"] (SpV K T m_law) := by
  have F : ∀ x, x ∈ blts → mg x = none := fun x hx => He.free_ok X G (c.d.facts (f := .free x) (List.mem_append.mpr (.inr (List.mem_map.mpr ⟨x, hx, rfl⟩))))
  have c_MOST_LENGTH := He.int_ok X G (c.d.fact 28 (f := .int "MOST_LENGTH" 30) rfl)
  have c_MOST_HEIGHT := He.int_ok X G (c.d.fact 29 (f := .int "MOST_HEIGHT" 35) rfl)
  have e0 : exL K = true := c.more
  obtain ⟨a0, e1⟩ := He.ba e0
  obtain ⟨a1, e2⟩ := He.ba e1
  have J_Dropped := ini_ok (prog := P) (d := i_Dropped) (sn := "self") (pn := "beat") (c.ini 0) (by rw [hP]; exact a0) rfl rfl rfl (by decide) rfl rfl rfl rfl rfl (by decide) rfl rfl rfl rfl (fun _ _ _ _ _ _ _ _ _ => rfl) (fun _ => rfl) (fun _ => rfl) (fun _ => rfl) (fun env hk => by rfl)
  have S_Dropped := sup_ok X G (by rw [hP]; exact a0) J_Dropped (by rw [hP]; rfl) (F "super" (by decide))
  have x_Dropped : ExcI K P w mg "Dropped" okI := ⟨_, _, _, _, S_Dropped, fun d hd F v u => msg_int (by decide) (by decide) d hd K F v u⟩
  have xt_Dropped := try_ok (c := "Dropped") X G a1
  obtain ⟨fd_is_row, D_is_row⟩ := c.d.def_ 0 (d := d_is_row) rfl
  obtain ⟨fd_landings, D_landings⟩ := c.d.def_ 1 (d := d_landings) rfl
  obtain ⟨fd_clash, D_clash⟩ := c.d.def_ 2 (d := d_clash) rfl
  obtain ⟨fd_can_be_juggled, D_can_be_juggled⟩ := c.d.def_ 3 (d := d_can_be_juggled) rfl
  obtain ⟨fd_check_row, D_check_row⟩ := c.d.def_ 4 (d := d_check_row) rfl
  obtain ⟨fd_balls, D_balls⟩ := c.d.def_ 5 (d := d_balls) rfl
  obtain ⟨fd_moves, D_moves⟩ := c.d.def_ 6 (d := d_moves) rfl
  obtain ⟨fd_height_at, D_height_at⟩ := c.d.def_ 7 (d := d_height_at) rfl
  obtain ⟨fd_lands, D_lands⟩ := c.d.def_ 8 (d := d_lands) rfl
  obtain ⟨fd_thrown_at, D_thrown_at⟩ := c.d.def_ 9 (d := d_thrown_at) rfl
  obtain ⟨fd_in_air, D_in_air⟩ := c.d.def_ 10 (d := d_in_air) rfl
  obtain ⟨fd_average, D_average⟩ := c.d.def_ 11 (d := d_average) rfl
  obtain ⟨fd_mean_is_whole, D_mean_is_whole⟩ := c.d.def_ 12 (d := d_mean_is_whole) rfl
  obtain ⟨fd_put_right, D_put_right⟩ := c.d.def_ 13 (d := d_put_right) rfl
  obtain ⟨fd_same_throws, D_same_throws⟩ := c.d.def_ 14 (d := d_same_throws) rfl
  obtain ⟨fd_counts_of, D_counts_of⟩ := c.d.def_ 15 (d := d_counts_of) rfl
  obtain ⟨fd_greatest, D_greatest⟩ := c.d.def_ 16 (d := d_greatest) rfl
  obtain ⟨fd__law_draws, D__law_draws⟩ := c.d.def_ 17 (d := d__law_draws) rfl
  obtain ⟨fd__law_box, D__law_box⟩ := c.d.def_ 18 (d := d__law_box) rfl
  obtain ⟨fd__law_next, D__law_next⟩ := c.d.def_ 19 (d := d__law_next) rfl
  obtain ⟨fd__law_row, D__law_row⟩ := c.d.def_ 20 (d := d__law_row) rfl
  obtain ⟨fd__law_some, D__law_some⟩ := c.d.def_ 21 (d := d__law_some) rfl
  obtain ⟨fd__law_clash, D__law_clash⟩ := c.d.def_ 22 (d := d__law_clash) rfl
  obtain ⟨fd__law_order, D__law_order⟩ := c.d.def_ 23 (d := d__law_order) rfl
  obtain ⟨fd__law_common, D__law_common⟩ := c.d.def_ 24 (d := d__law_common) rfl
  obtain ⟨fd__law_fraction, D__law_fraction⟩ := c.d.def_ 25 (d := d__law_fraction) rfl
  obtain ⟨fd__law_told, D__law_told⟩ := c.d.def_ 26 (d := d__law_told) rfl
  obtain ⟨fd_law, D_law⟩ := c.d.def_ 27 (d := d_law) rfl
  refine ⟨fd_law, fun s v => D_law.bindsA (ps := ["script"]) (fun _ _ _ _ _ _ us hl => match us, hl with | [_], _ => rfl) s [v] rfl, fun base hTB => ?_⟩
  have t_is_row : (He.cT K ("is_row", none)) ∈ tfL.map (He.cT K) := List.mem_of_getElem? (i := 0) rfl
  have u_is_row : (He.cT K ("is_row", none)).2 ∈ T := by rw [hT]; exact List.mem_of_getElem? (i := 0) rfl
  have q_is_row : CalP P w K mg base 1 "is_row" 1 (SpV K T m_is_row) := calP D_is_row (fn_okG (P := P) (w := w) (mg := mg) (base := base) (T := T) (at_ := ("is_row", none)) D_is_row f_is_row rfl rfl fun A outer s H E hr => w_is_row F c_MOST_HEIGHT c_MOST_LENGTH (hTB _ t_is_row) u_is_row A outer s H E hr) (He.glo_ok X G (c.d.fact 0 (f := .glo "is_row") rfl)) (fun _ _ _ _ _ _ us hl => match us, hl with | [_], _ => rfl)
  have q_landings : CalP P w K mg base 1 "landings" 1 (SpV K T m_landings) := calP D_landings (fn_ok (P := P) (w := w) (mg := mg) (base := base) (T := T) D_landings f_landings rfl rfl fun cdv A outer s H E hr => w_landings F cdv A outer s H E hr) (He.glo_ok X G (c.d.fact 1 (f := .glo "landings") rfl)) (fun _ _ _ _ _ _ us hl => match us, hl with | [_], _ => rfl)
  have q_clash : CalP P w K mg base 2 "clash" 1 (SpV K T m_clash) := calP D_clash (fn_ok (P := P) (w := w) (mg := mg) (base := base) (T := T) D_clash f_clash rfl rfl fun cdv A outer s H E hr => w_clash F q_landings cdv A outer s H E hr) (He.glo_ok X G (c.d.fact 2 (f := .glo "clash") rfl)) (fun _ _ _ _ _ _ us hl => match us, hl with | [_], _ => rfl)
  have q_can_be_juggled : CalP P w K mg base 3 "can_be_juggled" 1 (SpV K T m_can_be_juggled) := calP D_can_be_juggled (fn_ok (P := P) (w := w) (mg := mg) (base := base) (T := T) D_can_be_juggled f_can_be_juggled rfl rfl fun cdv A outer s H E hr => w_can_be_juggled q_clash cdv A outer s H E hr) (He.glo_ok X G (c.d.fact 3 (f := .glo "can_be_juggled") rfl)) (fun _ _ _ _ _ _ us hl => match us, hl with | [_], _ => rfl)
  have q_check_row : CalP P w K mg base 3 "check_row" 1 (SpV K T m_check_row) := calP D_check_row (fn_ok (P := P) (w := w) (mg := mg) (base := base) (T := T) D_check_row f_check_row rfl rfl fun cdv A outer s H E hr => w_check_row q_clash x_Dropped cdv A outer s H E hr) (He.glo_ok X G (c.d.fact 4 (f := .glo "check_row") rfl)) (fun _ _ _ _ _ _ us hl => match us, hl with | [_], _ => rfl)
  have q_balls : CalP P w K mg base 4 "balls" 1 (SpV K T m_balls) := calP D_balls (fn_ok (P := P) (w := w) (mg := mg) (base := base) (T := T) D_balls f_balls rfl rfl fun cdv A outer s H E hr => w_balls F q_check_row cdv A outer s H E hr) (He.glo_ok X G (c.d.fact 5 (f := .glo "balls") rfl)) (fun _ _ _ _ _ _ us hl => match us, hl with | [_], _ => rfl)
  have q_moves : CalP P w K mg base 4 "moves" 1 (SpV K T m_moves) := calP D_moves (fn_ok (P := P) (w := w) (mg := mg) (base := base) (T := T) D_moves f_moves rfl rfl fun cdv A outer s H E hr => w_moves F q_check_row q_landings cdv A outer s H E hr) (He.glo_ok X G (c.d.fact 6 (f := .glo "moves") rfl)) (fun _ _ _ _ _ _ us hl => match us, hl with | [_], _ => rfl)
  have q_height_at : CalP P w K mg base 1 "height_at" 2 (SpV K T m_height_at) := calP D_height_at (fn_ok (P := P) (w := w) (mg := mg) (base := base) (T := T) D_height_at f_height_at rfl rfl fun cdv A outer s H E hr => w_height_at F cdv A outer s H E hr) (He.glo_ok X G (c.d.fact 7 (f := .glo "height_at") rfl)) (fun _ _ _ _ _ _ us hl => match us, hl with | [_, _], _ => rfl)
  have q_lands : CalP P w K mg base 2 "lands" 2 (SpV K T m_lands) := calP D_lands (fn_ok (P := P) (w := w) (mg := mg) (base := base) (T := T) D_lands f_lands rfl rfl fun cdv A outer s H E hr => w_lands q_height_at cdv A outer s H E hr) (He.glo_ok X G (c.d.fact 8 (f := .glo "lands") rfl)) (fun _ _ _ _ _ _ us hl => match us, hl with | [_, _], _ => rfl)
  have q_thrown_at : CalP P w K mg base 5 "thrown_at" 2 (SpV K T m_thrown_at) := calP D_thrown_at (fn_ok (P := P) (w := w) (mg := mg) (base := base) (T := T) D_thrown_at f_thrown_at rfl rfl fun cdv A outer s H E hr => w_thrown_at F q_moves cdv A outer s H E hr) (He.glo_ok X G (c.d.fact 9 (f := .glo "thrown_at") rfl)) (fun _ _ _ _ _ _ us hl => match us, hl with | [_, _], _ => rfl)
  have q_in_air : CalP P w K mg base 4 "in_air" 2 (SpV K T m_in_air) := calP D_in_air (fn_ok (P := P) (w := w) (mg := mg) (base := base) (T := T) D_in_air f_in_air rfl rfl fun cdv A outer s H E hr => w_in_air F c_MOST_HEIGHT q_check_row q_height_at cdv A outer s H E hr) (He.glo_ok X G (c.d.fact 10 (f := .glo "in_air") rfl)) (fun _ _ _ _ _ _ us hl => match us, hl with | [_, _], _ => rfl)
  have q_average : CalP P w K mg base 1 "average" 1 (SpV K T m_average) := calP D_average (fn_ok (P := P) (w := w) (mg := mg) (base := base) (T := T) D_average f_average rfl rfl fun cdv A outer s H E hr => w_average F cdv A outer s H E hr) (He.glo_ok X G (c.d.fact 11 (f := .glo "average") rfl)) (fun _ _ _ _ _ _ us hl => match us, hl with | [_], _ => rfl)
  have q_mean_is_whole : CalP P w K mg base 1 "mean_is_whole" 1 (SpV K T m_mean_is_whole) := calP D_mean_is_whole (fn_ok (P := P) (w := w) (mg := mg) (base := base) (T := T) D_mean_is_whole f_mean_is_whole rfl rfl fun cdv A outer s H E hr => w_mean_is_whole F cdv A outer s H E hr) (He.glo_ok X G (c.d.fact 12 (f := .glo "mean_is_whole") rfl)) (fun _ _ _ _ _ _ us hl => match us, hl with | [_], _ => rfl)
  have q_put_right : CalP P w K mg base 1 "put_right" 1 (SpV K T m_put_right) := calP D_put_right (fn_ok (P := P) (w := w) (mg := mg) (base := base) (T := T) D_put_right f_put_right rfl rfl fun cdv A outer s H E hr => w_put_right F cdv A outer s H E hr) (He.glo_ok X G (c.d.fact 13 (f := .glo "put_right") rfl)) (fun _ _ _ _ _ _ us hl => match us, hl with | [_], _ => rfl)
  have q_same_throws : CalP P w K mg base 1 "same_throws" 2 (SpV K T m_same_throws) := calP D_same_throws (fn_ok (P := P) (w := w) (mg := mg) (base := base) (T := T) D_same_throws f_same_throws rfl rfl fun cdv A outer s H E hr => w_same_throws F cdv A outer s H E hr) (He.glo_ok X G (c.d.fact 14 (f := .glo "same_throws") rfl)) (fun _ _ _ _ _ _ us hl => match us, hl with | [_, _], _ => rfl)
  have q_counts_of : CalP P w K mg base 1 "counts_of" 1 (SpV K T m_counts_of) := calP D_counts_of (fn_ok (P := P) (w := w) (mg := mg) (base := base) (T := T) D_counts_of f_counts_of rfl rfl fun cdv A outer s H E hr => w_counts_of F cdv A outer s H E hr) (He.glo_ok X G (c.d.fact 15 (f := .glo "counts_of") rfl)) (fun _ _ _ _ _ _ us hl => match us, hl with | [_], _ => rfl)
  have q_greatest : CalP P w K mg base 1 "greatest" 1 (SpV K T m_greatest) := calP D_greatest (fn_ok (P := P) (w := w) (mg := mg) (base := base) (T := T) D_greatest f_greatest rfl rfl fun cdv A outer s H E hr => w_greatest F cdv A outer s H E hr) (He.glo_ok X G (c.d.fact 16 (f := .glo "greatest") rfl)) (fun _ _ _ _ _ _ us hl => match us, hl with | [_], _ => rfl)
  have q__law_draws : CalP P w K mg base 1 "_law_draws" 3 (SpV K T m__law_draws) := calP D__law_draws (fn_ok (P := P) (w := w) (mg := mg) (base := base) (T := T) D__law_draws f__law_draws rfl rfl fun cdv A outer s H E hr => w__law_draws F cdv A outer s H E hr) (He.glo_ok X G (c.d.fact 17 (f := .glo "_law_draws") rfl)) (fun _ _ _ _ _ _ us hl => match us, hl with | [_, _, _], _ => rfl)
  have q__law_box : CalP P w K mg base 2 "_law_box" 1 (SpV K T m__law_box) := calP D__law_box (fn_ok (P := P) (w := w) (mg := mg) (base := base) (T := T) D__law_box f__law_box rfl rfl fun cdv A outer s H E hr => w__law_box F q__law_draws cdv A outer s H E hr) (He.glo_ok X G (c.d.fact 18 (f := .glo "_law_box") rfl)) (fun _ _ _ _ _ _ us hl => match us, hl with | [_], _ => rfl)
  have q__law_next : CalP P w K mg base 1 "_law_next" 2 (SpI K T m__law_next) := calP D__law_next (fnI_ok (P := P) (w := w) (mg := mg) (base := base) (T := T) D__law_next f__law_next rfl (by decide) rfl fun cdv A outer s H E hr => w__law_next F cdv A outer s H E hr) (He.glo_ok X G (c.d.fact 19 (f := .glo "_law_next") rfl)) (fun _ _ _ _ _ _ us hl => match us, hl with | [_, _], _ => rfl)
  have q__law_row : CalP P w K mg base 2 "_law_row" 3 (SpI K T m__law_row) := calP D__law_row (fnI_ok (P := P) (w := w) (mg := mg) (base := base) (T := T) D__law_row f__law_row rfl (by decide) rfl fun cdv A outer s H E hr => w__law_row F q__law_next cdv A outer s H E hr) (He.glo_ok X G (c.d.fact 20 (f := .glo "_law_row") rfl)) (fun _ _ _ _ _ _ us hl => match us, hl with | [_, _, _], _ => rfl)
  have q__law_some : CalP P w K mg base 2 "_law_some" 3 (SpI K T m__law_some) := calP D__law_some (fnI_ok (P := P) (w := w) (mg := mg) (base := base) (T := T) D__law_some f__law_some rfl (by decide) rfl fun cdv A outer s H E hr => w__law_some F q__law_next cdv A outer s H E hr) (He.glo_ok X G (c.d.fact 21 (f := .glo "_law_some") rfl)) (fun _ _ _ _ _ _ us hl => match us, hl with | [_, _, _], _ => rfl)
  have q__law_clash : CalP P w K mg base 1 "_law_clash" 1 (SpV K T m__law_clash) := calP D__law_clash (fn_ok (P := P) (w := w) (mg := mg) (base := base) (T := T) D__law_clash f__law_clash rfl rfl fun cdv A outer s H E hr => w__law_clash F cdv A outer s H E hr) (He.glo_ok X G (c.d.fact 22 (f := .glo "_law_clash") rfl)) (fun _ _ _ _ _ _ us hl => match us, hl with | [_], _ => rfl)
  have q__law_order : CalP P w K mg base 2 "_law_order" 2 (SpI K T m__law_order) := calP D__law_order (fnI_ok (P := P) (w := w) (mg := mg) (base := base) (T := T) D__law_order f__law_order rfl (by decide) rfl fun cdv A outer s H E hr => w__law_order F q__law_next cdv A outer s H E hr) (He.glo_ok X G (c.d.fact 23 (f := .glo "_law_order") rfl)) (fun _ _ _ _ _ _ us hl => match us, hl with | [_, _], _ => rfl)
  have q__law_common : CalP P w K mg base 1 "_law_common" 2 (SpV K T m__law_common) := calP D__law_common (fn_ok (P := P) (w := w) (mg := mg) (base := base) (T := T) D__law_common f__law_common rfl rfl fun cdv A outer s H E hr => w__law_common F cdv A outer s H E hr) (He.glo_ok X G (c.d.fact 24 (f := .glo "_law_common") rfl)) (fun _ _ _ _ _ _ us hl => match us, hl with | [_, _], _ => rfl)
  have q__law_fraction : CalP P w K mg base 2 "_law_fraction" 2 (SpV K T m__law_fraction) := calP D__law_fraction (fn_ok (P := P) (w := w) (mg := mg) (base := base) (T := T) D__law_fraction f__law_fraction rfl rfl fun cdv A outer s H E hr => w__law_fraction q__law_common cdv A outer s H E hr) (He.glo_ok X G (c.d.fact 25 (f := .glo "_law_fraction") rfl)) (fun _ _ _ _ _ _ us hl => match us, hl with | [_, _], _ => rfl)
  have q__law_told : CalP P w K mg base 5 "_law_told" 2 (SpV K T m__law_told) := calP D__law_told (fn_ok (P := P) (w := w) (mg := mg) (base := base) (T := T) D__law_told f__law_told rfl rfl fun cdv A outer s H E hr => w__law_told F q_balls q_check_row q_moves xt_Dropped cdv A outer s H E hr) (He.glo_ok X G (c.d.fact 26 (f := .glo "_law_told") rfl)) (fun _ _ _ _ _ _ us hl => match us, hl with | [_, _], _ => rfl)
  exact (fn_ok (P := P) (w := w) (mg := mg) (base := base) (T := T) D_law f_law rfl rfl fun cdv A outer s H E hr => w_law F q__law_box q__law_clash q__law_fraction q__law_next q__law_order q__law_row q__law_some q__law_told q_average q_can_be_juggled q_clash q_counts_of q_greatest q_height_at q_in_air q_is_row q_landings q_lands q_mean_is_whole q_put_right q_same_throws q_thrown_at cdv A outer s H E hr)
end Py
open PySem PySem.W PySem.Calls PyProof.Rows
theorem Py.holds_of (hm : ∀ ns : List Int, ns.length ≤ 63 → (∀ z ∈ ns, Builtin.Int.intBits z ≤ 1048576) → ∃ o b, Py.m_law [.list (ns.map .int)] = .ret (.bool true) o b) : PySem.Challenge.rw_evercaught_k01_rows_that_can_be_juggled.Holds := by
  w_on; o_law
  refine HandSHeadRun.head_any (r := OpenLaw.row PySem.Challenge.rw_evercaught_k01_rows_that_can_be_juggled) (q := view (OpenLaw.row PySem.Challenge.rw_evercaught_k01_rows_that_can_be_juggled).prog [34]) (H := Py.hk) (ob := Py.ob) (M := 4000) (loose := Py.namesL) (d := HandSHeadRun.topDef (OpenLaw.row PySem.Challenge.rw_evercaught_k01_rows_that_can_be_juggled).prog 34) (kwd := []) Py.ob_eq
    (by kernel_rfl) (fun s => by kernel_rfl) Py.run (by kernel_rfl) (by kernel_rfl) (by kernel_rfl) (by rfl) (by first | assumption | decide +kernel) (by decide +kernel) ⟨rfl, rfl, rfl, rfl, rfl, by decide +kernel⟩ ?hw ?hc
  case hw => w_witness2
  case hc =>
    refine LamX.walk_ofTsE (l := PySem.Challenge.rw_evercaught_k01_rows_that_can_be_juggled) (n := 63) (k := 6) (x := "script") (CX := fun w => L2.CX (PySem.Challenge.rw_evercaught_k01_rows_that_can_be_juggled).prog w) rfl (by decide) (by kernel_rfl) ⟨rfl, by decide, by decide⟩ ?F (fun w H s e s' ⟨_, _, _, _, _, _, _, _, _, _, _, _, z⟩ => z)
    intro w mg fa h Y G hmg0
    obtain ⟨K, KX, c⟩ := Y
    have hmg : mg ("law" : PySem.Str) = some (.ref fa) := by
      have e : (HandSHeadRun.topDef (OpenLaw.row PySem.Challenge.rw_evercaught_k01_rows_that_can_be_juggled).prog 34).name = ("law" : PySem.Str) := by kernel_rfl
      rw [← e]
      exact hmg0
    have eg := hmg.symm.trans (He.glo_ok KX G (c.d.fact 27 (f := .glo "law") rfl))
    cases eg
    obtain ⟨fd, hb, hF⟩ := Py.facts (P := (PySem.Challenge.rw_evercaught_k01_rows_that_can_be_juggled).prog) rfl (w := w) KX G c _ rfl
    have mem : ∀ p ∈ Py.tfL.map (He.cT K), ∃ q ∈ Py.tfL, p = He.cT K q := fun p hp => by
      obtain ⟨q, h1, h2⟩ := List.mem_map.mp hp
      exact ⟨q, h1, h2.symm⟩
    refine ⟨K, KX, fd, Py.tfL.map (He.cT K), Py.SpV K (Py.tfL.map fun p => (He.cT K p).2) Py.m_law, fun p hp => ?_, fun p hp => ?_, fun p hp => ?_, hb, fun H a ns hl hbits hT hS => Py.law_sp (fun P hP => ?_) hS (hm ns hl hbits), fun base _ _ hTB => hF base fun p hp => ⟨(hTB p hp).code, (hTB p hp).bm, (hTB p hp).gP⟩⟩
    · obtain ⟨q, h1, rfl⟩ := mem p hp
      exact c.empty q h1
    · obtain ⟨q, h1, rfl⟩ := mem p hp
      exact c.out q h1
    · obtain ⟨q, h1, rfl⟩ := mem p hp
      exact codeHd_of_K KX (c.hd q h1)
    · obtain ⟨q, h1, h2⟩ := List.mem_map.mp hP
      exact hT (He.cT K q) (List.mem_map.mpr ⟨q, h1, rfl⟩) |> fun z => by rw [← h2]; exact z
end
section
namespace Py
open PySem L2
def drawsOk (m : Int) (n : Nat) (L : List Int) : Prop := L.length = n ∧ ∀ x ∈ L, 0 ≤ x ∧ x < m
theorem oPow_1018 : oPow [.int 10, .int 18] = some (.int 1000000000000000000, false) := by
  unfold oPow oI cPow; rfl
theorem drawsOk_add {m : Int} {n : Nat} {L : List Int} {x : Int} (h : drawsOk m n L) (h1 : 0 ≤ x) (h2 : x < m) : drawsOk m (n + 1) (L ++ [x]) := by
  refine ⟨by simp [h.1], fun y hy => ?_⟩
  rcases List.mem_append.mp hy with z | z
  · exact h.2 y z
  · rw [List.mem_singleton.mp z]; exact ⟨h1, h2⟩
theorem draws_ok (c : Int) : ∃ L, m__law_draws [.int c, .int 1000003, .int 6] = .ret (intsL L) true .none ∧ drawsOk 1000003 6 L := by
  have key := fn_ret (n := 7) (k := 3) (body := sSeq s__law_draws) (ds := [.int c, .int 1000003, .int 6]) (Z := fun d o => o = true ∧ ∃ L, d = intsL L ∧ drawsOk 1000003 6 L) rfl ?_
  · obtain ⟨d, o, h1, rfl, L, rfl, h3⟩ := key
    exact ⟨L, h1, h3⟩
  · unfold s__law_draws
    show wp (sSeq _ [some (.int c, Tg.fz), some (.int 1000003, Tg.fz), some (.int 6, Tg.fz), none, none, none, none]) _ _
    (rw [wp_seq]; (conv => arg 1; simp -implicitDefEqProofs [r_evA0, r_evAe, r_evAp, r_eOp, r_eC, r_eV, r_eM, r_tOf, r_tAr, r_tAn, r_tOr, r_tNo, r_tYs, r_eIf, r_eAn, r_eOr, r_eNo, r_evV0, r_evVc, r_eMt, r_eMs, r_eMe, r_eCall, r_eCallI, r_sSeq0, r_sSeqc, r_gN, r_gTs0, r_gTsc, r_gT, r_sAsg, r_evO0, r_evOc, r_stA0, r_stAc, r_sPar, r_sEx, r_sAug, r_sPut, r_sRet, r_sIf, r_sPass, r_sCont, r_sRaise, r_eVs, r_itV, r_itR1, r_itR2, r_itE, muT, asB, truth, tyD_l, tyD_d, tyD_s, oLst, oTup]); rw [wp_nx])
    have step1 : ∃ num : Int, ∀ Q E, wp (sIf (tOf (eOp oLt [.pk 3, .ev (eC (.int 0))])) (sSeq [sAsg (gN 3) (eOp oSub [.ev (eOp oSub [.ev (eC (.int 0)), .ev (eC (.int 1))]), .pk 3])]) (sSeq []) [some (.int c, Tg.fz), some (.int 1000003, Tg.fz), some (.int 6, Tg.fz), some (.int c, Tg.fz), none, none, none]) Q E = Q (.nx [some (.int c, Tg.fz), some (.int 1000003, Tg.fz), some (.int 6, Tg.fz), some (.int num, Tg.fz), none, none, none]) := by
      by_cases hc : c < 0
      · exact ⟨_, fun Q E => by simp -implicitDefEqProofs [r_evA0, r_evAe, r_evAp, r_eOp, r_eC, r_eV, r_eM, r_tOf, r_tAr, r_tAn, r_tOr, r_tNo, r_tYs, r_eIf, r_eAn, r_eOr, r_eNo, r_evV0, r_evVc, r_eMt, r_eMs, r_eMe, r_eCall, r_eCallI, r_sSeq0, r_sSeqc, r_gN, r_gTs0, r_gTsc, r_gT, r_sAsg, r_evO0, r_evOc, r_stA0, r_stAc, r_sPar, r_sEx, r_sAug, r_sPut, r_sRet, r_sIf, r_sPass, r_sCont, r_sRaise, r_eVs, r_itV, r_itR1, r_itR2, r_itE, muT, asB, truth, tyD_l, tyD_d, tyD_s, oLst, oTup, hc]; rfl⟩
      · exact ⟨_, fun Q E => by simp -implicitDefEqProofs [r_evA0, r_evAe, r_evAp, r_eOp, r_eC, r_eV, r_eM, r_tOf, r_tAr, r_tAn, r_tOr, r_tNo, r_tYs, r_eIf, r_eAn, r_eOr, r_eNo, r_evV0, r_evVc, r_eMt, r_eMs, r_eMe, r_eCall, r_eCallI, r_sSeq0, r_sSeqc, r_gN, r_gTs0, r_gTsc, r_gT, r_sAsg, r_evO0, r_evOc, r_stA0, r_stAc, r_sPar, r_sEx, r_sAug, r_sPut, r_sRet, r_sIf, r_sPass, r_sCont, r_sRaise, r_eVs, r_itV, r_itR1, r_itR2, r_itE, muT, asB, truth, tyD_l, tyD_d, tyD_s, oLst, oTup, hc]; rfl⟩
    obtain ⟨num, h1⟩ := step1
    rw [wp_seq, h1]
    show wp (sSeq _ _) _ _
    (rw [wp_seq]; (conv => arg 1; simp -implicitDefEqProofs [r_evA0, r_evAe, r_evAp, r_eOp, r_eC, r_eV, r_eM, r_tOf, r_tAr, r_tAn, r_tOr, r_tNo, r_tYs, r_eIf, r_eAn, r_eOr, r_eNo, r_evV0, r_evVc, r_eMt, r_eMs, r_eMe, r_eCall, r_eCallI, r_sSeq0, r_sSeqc, r_gN, r_gTs0, r_gTsc, r_gT, r_sAsg, r_evO0, r_evOc, r_stA0, r_stAc, r_sPar, r_sEx, r_sAug, r_sPut, r_sRet, r_sIf, r_sPass, r_sCont, r_sRaise, r_eVs, r_itV, r_itR1, r_itR2, r_itE, muT, asB, truth, tyD_l, tyD_d, tyD_s, oLst, oTup]); rw [wp_nx])
    by_cases hbig : (1000000000000000000 : Int) ≤ num
    · have hd : decide ((1000000000000000000 : Int) ≤ num) = true := decide_eq_true hbig
      (rw [wp_seq]; (conv => arg 1; simp -implicitDefEqProofs [r_evA0, r_evAe, r_evAp, r_eOp, r_eC, r_eV, r_eM, r_tOf, r_tAr, r_tAn, r_tOr, r_tNo, r_tYs, r_eIf, r_eAn, r_eOr, r_eNo, r_evV0, r_evVc, r_eMt, r_eMs, r_eMe, r_eCall, r_eCallI, r_sSeq0, r_sSeqc, r_gN, r_gTs0, r_gTsc, r_gT, r_sAsg, r_evO0, r_evOc, r_stA0, r_stAc, r_sPar, r_sEx, r_sAug, r_sPut, r_sRet, r_sIf, r_sPass, r_sCont, r_sRaise, r_eVs, r_itV, r_itR1, r_itR2, r_itE, muT, asB, truth, tyD_l, tyD_d, tyD_s, oLst, oTup, oPow_1018, hd]))
      rw [wp_bnd]
      refine wp_for (ds := rangeL 0 6) (by simp -implicitDefEqProofs [r_evA0, r_evAe, r_evAp, r_eOp, r_eC, r_eV, r_eM, r_tOf, r_tAr, r_tAn, r_tOr, r_tNo, r_tYs, r_eIf, r_eAn, r_eOr, r_eNo, r_evV0, r_evVc, r_eMt, r_eMs, r_eMe, r_eCall, r_eCallI, r_sSeq0, r_sSeqc, r_gN, r_gTs0, r_gTsc, r_gT, r_sAsg, r_evO0, r_evOc, r_stA0, r_stAc, r_sPar, r_sEx, r_sAug, r_sPut, r_sRet, r_sIf, r_sPass, r_sCont, r_sRaise, r_eVs, r_itV, r_itR1, r_itR2, r_itE, muT, asB, truth, tyD_l, tyD_d, tyD_s, oLst, oTup, lim62]; exact ⟨rfl, rfl⟩) (fun k e => ∃ (num : Int) (L : List Int) (o5 : Option Int), e = [some (.int c, Tg.fz), some (.int 1000003, Tg.fz), some (.int 6, Tg.fz), some (.int num, Tg.fz), some (intsL L, Tg.own), oI? o5, none] ∧ drawsOk 1000003 k L) ⟨num, [], none, rfl, rfl, by simp⟩ ?_ ?_
      · rintro k d e hd ⟨num, L, o5, rfl, hL⟩
        obtain ⟨hk, rfl⟩ := range_get hd
        have hl : L.length < 16777216 := by have := hL.1; omega
        have hm : (0 : Int) < 1000003 := by decide
        have hm2 : (1000003 : Int) < 1073741824 := by decide
        have hn := drawsOk_add hL (Int.emod_nonneg num (Int.ne_of_gt hm)) (Int.emod_lt_of_pos num hm)
        cases o5 <;> refine ⟨_, by simp -implicitDefEqProofs [r_evA0, r_evAe, r_evAp, r_eOp, r_eC, r_eV, r_eM, r_tOf, r_tAr, r_tAn, r_tOr, r_tNo, r_tYs, r_eIf, r_eAn, r_eOr, r_eNo, r_evV0, r_evVc, r_eMt, r_eMs, r_eMe, r_eCall, r_eCallI, r_sSeq0, r_sSeqc, r_gN, r_gTs0, r_gTsc, r_gT, r_sAsg, r_evO0, r_evOc, r_stA0, r_stAc, r_sPar, r_sEx, r_sAug, r_sPut, r_sRet, r_sIf, r_sPass, r_sCont, r_sRaise, r_eVs, r_itV, r_itR1, r_itR2, r_itE, muT, asB, truth, tyD_l, tyD_d, tyD_s, oLst, oTup, oI?]; rfl, ?_⟩ <;> (((conv => arg 1; simp -implicitDefEqProofs [r_evA0, r_evAe, r_evAp, r_eOp, r_eC, r_eV, r_eM, r_tOf, r_tAr, r_tAn, r_tOr, r_tNo, r_tYs, r_eIf, r_eAn, r_eOr, r_eNo, r_evV0, r_evVc, r_eMt, r_eMs, r_eMe, r_eCall, r_eCallI, r_sSeq0, r_sSeqc, r_gN, r_gTs0, r_gTsc, r_gT, r_sAsg, r_evO0, r_evOc, r_stA0, r_stAc, r_sPar, r_sEx, r_sAug, r_sPut, r_sRet, r_sIf, r_sPass, r_sCont, r_sRaise, r_eVs, r_itV, r_itR1, r_itR2, r_itE, muT, asB, truth, tyD_l, tyD_d, tyD_s, oLst, oTup, oMod_pos hm, oDiv_pos hm hm2, mAppend_int hl, tyD_ints, goOn]); rw [wp_ok]); exact ⟨_, _, some _, rfl, hn⟩)
      · rintro e ⟨num, L, o5, rfl, hL⟩
        ((conv => arg 1; simp -implicitDefEqProofs [r_evA0, r_evAe, r_evAp, r_eOp, r_eC, r_eV, r_eM, r_tOf, r_tAr, r_tAn, r_tOr, r_tNo, r_tYs, r_eIf, r_eAn, r_eOr, r_eNo, r_evV0, r_evVc, r_eMt, r_eMs, r_eMe, r_eCall, r_eCallI, r_sSeq0, r_sSeqc, r_gN, r_gTs0, r_gTsc, r_gT, r_sAsg, r_evO0, r_evOc, r_stA0, r_stAc, r_sPar, r_sEx, r_sAug, r_sPut, r_sRet, r_sIf, r_sPass, r_sCont, r_sRaise, r_eVs, r_itV, r_itR1, r_itR2, r_itE, muT, asB, truth, tyD_l, tyD_d, tyD_s, oLst, oTup, oI?]); rw [wp_ok])
        exact ⟨rfl, L, rfl, hL⟩
    · have hd : decide ((1000000000000000000 : Int) ≤ num) = false := decide_eq_false hbig
      clear hbig
      (rw [wp_seq]; (conv => arg 1; simp -implicitDefEqProofs [r_evA0, r_evAe, r_evAp, r_eOp, r_eC, r_eV, r_eM, r_tOf, r_tAr, r_tAn, r_tOr, r_tNo, r_tYs, r_eIf, r_eAn, r_eOr, r_eNo, r_evV0, r_evVc, r_eMt, r_eMs, r_eMe, r_eCall, r_eCallI, r_sSeq0, r_sSeqc, r_gN, r_gTs0, r_gTsc, r_gT, r_sAsg, r_evO0, r_evOc, r_stA0, r_stAc, r_sPar, r_sEx, r_sAug, r_sPut, r_sRet, r_sIf, r_sPass, r_sCont, r_sRaise, r_eVs, r_itV, r_itR1, r_itR2, r_itE, muT, asB, truth, tyD_l, tyD_d, tyD_s, oLst, oTup, oPow_1018, hd]); rw [wp_nx])
      rw [wp_seq]
      refine wp_for (ds := rangeL 0 6) (by simp -implicitDefEqProofs [r_evA0, r_evAe, r_evAp, r_eOp, r_eC, r_eV, r_eM, r_tOf, r_tAr, r_tAn, r_tOr, r_tNo, r_tYs, r_eIf, r_eAn, r_eOr, r_eNo, r_evV0, r_evVc, r_eMt, r_eMs, r_eMe, r_eCall, r_eCallI, r_sSeq0, r_sSeqc, r_gN, r_gTs0, r_gTsc, r_gT, r_sAsg, r_evO0, r_evOc, r_stA0, r_stAc, r_sPar, r_sEx, r_sAug, r_sPut, r_sRet, r_sIf, r_sPass, r_sCont, r_sRaise, r_eVs, r_itV, r_itR1, r_itR2, r_itE, muT, asB, truth, tyD_l, tyD_d, tyD_s, oLst, oTup, lim62]; exact ⟨rfl, rfl⟩) (fun k e => ∃ (L : List Int) (o5 o6 : Option Int), e = [some (.int c, Tg.fz), some (.int 1000003, Tg.fz), some (.int 6, Tg.fz), some (.int num, Tg.fz), some (intsL L, Tg.own), oI? o5, oI? o6] ∧ drawsOk 1000003 k L) ⟨[], none, none, rfl, rfl, by simp⟩ ?_ ?_
      · rintro k d e hd ⟨L, o5, o6, rfl, hL⟩
        obtain ⟨hk, rfl⟩ := range_get hd
        have hl : L.length < 16777216 := by have := hL.1; omega
        have hm : (0 : Int) < 1000003 := by decide
        have hm3 : (0 : Int) < 2147483647 := by decide
        have hm4 : (0 : Int) < 2147483629 := by decide
        have hm7 : (0 : Int) < 7 := by decide
        have hm8 : (7 : Int) < 1073741824 := by decide
        have hn := fun num : Int => drawsOk_add hL (Int.emod_nonneg num (Int.ne_of_gt hm)) (Int.emod_lt_of_pos num hm)
        cases o5 <;> cases o6 <;> refine ⟨_, by simp -implicitDefEqProofs [r_evA0, r_evAe, r_evAp, r_eOp, r_eC, r_eV, r_eM, r_tOf, r_tAr, r_tAn, r_tOr, r_tNo, r_tYs, r_eIf, r_eAn, r_eOr, r_eNo, r_evV0, r_evVc, r_eMt, r_eMs, r_eMe, r_eCall, r_eCallI, r_sSeq0, r_sSeqc, r_gN, r_gTs0, r_gTsc, r_gT, r_sAsg, r_evO0, r_evOc, r_stA0, r_stAc, r_sPar, r_sEx, r_sAug, r_sPut, r_sRet, r_sIf, r_sPass, r_sCont, r_sRaise, r_eVs, r_itV, r_itR1, r_itR2, r_itE, muT, asB, truth, tyD_l, tyD_d, tyD_s, oLst, oTup, oI?]; rfl, ?_⟩ <;> (((conv => arg 1; simp -implicitDefEqProofs [r_evA0, r_evAe, r_evAp, r_eOp, r_eC, r_eV, r_eM, r_tOf, r_tAr, r_tAn, r_tOr, r_tNo, r_tYs, r_eIf, r_eAn, r_eOr, r_eNo, r_evV0, r_evVc, r_eMt, r_eMs, r_eMe, r_eCall, r_eCallI, r_sSeq0, r_sSeqc, r_gN, r_gTs0, r_gTsc, r_gT, r_sAsg, r_evO0, r_evOc, r_stA0, r_stAc, r_sPar, r_sEx, r_sAug, r_sPut, r_sRet, r_sIf, r_sPass, r_sCont, r_sRaise, r_eVs, r_itV, r_itR1, r_itR2, r_itE, muT, asB, truth, tyD_l, tyD_d, tyD_s, oLst, oTup, oMod_pos hm, oMod_pos hm3, oMod_pos hm4, oDiv_pos hm7 hm8, mAppend_int hl, tyD_ints, goOn, oMul_int (cMul_l (i := 7) (by decide) (by decide)), oMul_int (cMul_l (i := 31) (by decide) (by decide)), fun i => oMul_int (cMul_r (i := i) (j := 48271) (by decide) (by decide)), fun i => oMul_int (cMul_r (i := i) (j := 69621) (by decide) (by decide))]); rw [wp_ok]); exact ⟨_, some _, some _, rfl, hn _⟩)
      · rintro e ⟨L, o5, o6, rfl, hL⟩
        cases o5 <;> cases o6 <;> (show wp (sSeq _ _) _ _; rw [wp_seq]; ((conv => arg 1; simp -implicitDefEqProofs [r_evA0, r_evAe, r_evAp, r_eOp, r_eC, r_eV, r_eM, r_tOf, r_tAr, r_tAn, r_tOr, r_tNo, r_tYs, r_eIf, r_eAn, r_eOr, r_eNo, r_evV0, r_evVc, r_eMt, r_eMs, r_eMe, r_eCall, r_eCallI, r_sSeq0, r_sSeqc, r_gN, r_gTs0, r_gTsc, r_gT, r_sAsg, r_evO0, r_evOc, r_stA0, r_stAc, r_sPar, r_sEx, r_sAug, r_sPut, r_sRet, r_sIf, r_sPass, r_sCont, r_sRaise, r_eVs, r_itV, r_itR1, r_itR2, r_itE, muT, asB, truth, tyD_l, tyD_d, tyD_s, oLst, oTup, oI?]); rw [wp_ok]); exact ⟨rfl, L, rfl, hL⟩)
end Py
end
section
namespace Py
open PySem L2
/-! the numbers of the box -/
def boxV (row : List Int) (a : Int) : PyData := .dict [(.str "row", intsL row), (.str "at", .int a)]
theorem boxV_row (row : List Int) (a : Int) : oIx [boxV row a, .str "row"] = some (intsL row, false) := oIx_dict rfl
theorem boxV_at (row : List Int) (a : Int) : oIx [boxV row a, .str "at"] = some (.int a, false) := oIx_dict rfl
theorem boxV_put (row : List Int) (a b : Int) : uSet (boxV row a) (.str "at") (.int b) = some (boxV row b) := rfl
def nextV (row : List Int) (a m : Int) : Int := (row.getD (a % row.length).toNat 0 + 7919 * (a / row.length)) % m
theorem next_ok {row : List Int} {a m : Int} (hm : 0 < m) (hr : row ≠ []) (hl : row.length < 1000000) : m__law_next [boxV row a, .int m] = .ret (.int (nextV row a m)) false (boxV row (a + 1)) := by
  have hp : 0 < row.length := by cases row with
    | nil => exact absurd rfl hr
    | cons _ _ => simp
  have h1 : (0 : Int) < row.length := by omega
  have h2 : (row.length : Int) < 1073741824 := by omega
  have h3 : 0 ≤ a % row.length := Int.emod_nonneg _ (by omega)
  have h4 : a % row.length < row.length := Int.emod_lt_of_pos _ h1
  unfold m__law_next s__law_next fnI
  simp only [List.length_cons, List.length_nil, iniI, ini, if_true]
  simp -implicitDefEqProofs [r_evA0, r_evAe, r_evAp, r_eOp, r_eC, r_eV, r_eM, r_tOf, r_tAr, r_tAn, r_tOr, r_tNo, r_tYs, r_eIf, r_eAn, r_eOr, r_eNo, r_evV0, r_evVc, r_eMt, r_eMs, r_eMe, r_eCall, r_eCallI, r_sSeq0, r_sSeqc, r_gN, r_gTs0, r_gTsc, r_gT, r_sAsg, r_evO0, r_evOc, r_stA0, r_stAc, r_sPar, r_sEx, r_sAug, r_sPut, r_sRet, r_sIf, r_sPass, r_sCont, r_sRaise, r_eVs, r_itV, r_itR1, r_itR2, r_itE, muT, asB, truth, tyD_l, tyD_d, tyD_s, oLst, oTup, finI, boxV_at, boxV_row, boxV_put, oLen_ints, oMod_pos h1, oDiv_pos h1 h2, oMod_pos hm, oIx_intsL h3 h4, oMul_int (cMul_l (i := 7919) (by decide) (by decide)), nextV]
theorem nextV_lt {row : List Int} {a m : Int} (hm : 0 < m) : 0 ≤ nextV row a m ∧ nextV row a m < m := ⟨Int.emod_nonneg _ (by omega), Int.emod_lt_of_pos _ hm⟩
/-- the box made of a script -/
theorem oEq_int0 (i j : Int) : oEq [.int i, .int j] = some (.bool (decide (i = j)), false) := oEq_int i j
theorem boxDisp {L : List Int} : unflat [.str "row", intsL L, .str "at", .int 0] = some [(.str "row", intsL L), (.str "at", .int 0)] := rfl
theorem boxMerge {d x : PyData} : mergeD [(.str "row", d), (.str "at", x)] = [(.str "row", d), (.str "at", x)] := rfl
theorem box_ok {ns : List Int} (hl : ns.length ≤ 63) : ∃ row, m__law_box [intsL ns] = .ret (boxV row 0) true .none ∧ row ≠ [] ∧ row.length < 1000000 := by
  have key := fn_ret (n := 3) (k := 1) (body := sSeq s__law_box) (ds := [intsL ns]) (Z := fun d o => o = true ∧ ∃ row, d = boxV row 0 ∧ row ≠ [] ∧ row.length < 1000000) rfl ?_
  · obtain ⟨d, o, h1, rfl, L, rfl, h3⟩ := key
    exact ⟨L, h1, h3⟩
  · unfold s__law_box
    show wp (sSeq _ [some (intsL ns, Tg.fz), none, none]) _ _
    (rw [wp_seq]; (conv => arg 1; simp -implicitDefEqProofs [r_evA0, r_evAe, r_evAp, r_eOp, r_eC, r_eV, r_eM, r_tOf, r_tAr, r_tAn, r_tOr, r_tNo, r_tYs, r_eIf, r_eAn, r_eOr, r_eNo, r_evV0, r_evVc, r_eMt, r_eMs, r_eMe, r_eCall, r_eCallI, r_sSeq0, r_sSeqc, r_gN, r_gTs0, r_gTsc, r_gT, r_sAsg, r_evO0, r_evOc, r_stA0, r_stAc, r_sPar, r_sEx, r_sAug, r_sPut, r_sRet, r_sIf, r_sPass, r_sCont, r_sRaise, r_eVs, r_itV, r_itR1, r_itR2, r_itE, muT, asB, truth, tyD_l, tyD_d, tyD_s, oLst, oTup]); rw [wp_nx])
    rw [wp_seq]
    refine wp_for (ds := ns.map .int) (by simp -implicitDefEqProofs [r_evA0, r_evAe, r_evAp, r_eOp, r_eC, r_eV, r_eM, r_tOf, r_tAr, r_tAn, r_tOr, r_tNo, r_tYs, r_eIf, r_eAn, r_eOr, r_eNo, r_evV0, r_evVc, r_eMt, r_eMs, r_eMe, r_eCall, r_eCallI, r_sSeq0, r_sSeqc, r_gN, r_gTs0, r_gTsc, r_gT, r_sAsg, r_evO0, r_evOc, r_stA0, r_stAc, r_sPar, r_sEx, r_sAug, r_sPut, r_sRet, r_sIf, r_sPass, r_sCont, r_sRaise, r_eVs, r_itV, r_itR1, r_itR2, r_itE, muT, asB, truth, tyD_l, tyD_d, tyD_s, oLst, oTup, itsOf_ints]; exact ⟨rfl, rfl⟩) (fun k e => ∃ (L : List Int) (o2 : Option Int), e = [some (intsL ns, Tg.fz), some (intsL L, Tg.own), oI? o2] ∧ L.length = 6 * k) ⟨[], none, rfl, rfl⟩ ?_ ?_
    · rintro k d e hd ⟨L, o2, rfl, hL⟩
      obtain ⟨i, hk0, rfl⟩ := ints_get hd
      have hk := (List.getElem?_eq_some_iff.mp hk0).1
      obtain ⟨D, hD, hD2⟩ := draws_ok i
      have hc : L.length + D.length ≤ 16777216 := by have := hD2.1; omega
      have hn : (L ++ D).length = 6 * (k + 1) := by have := hD2.1; rw [List.length_append]; omega
      cases o2 <;> refine ⟨_, by simp -implicitDefEqProofs [r_evA0, r_evAe, r_evAp, r_eOp, r_eC, r_eV, r_eM, r_tOf, r_tAr, r_tAn, r_tOr, r_tNo, r_tYs, r_eIf, r_eAn, r_eOr, r_eNo, r_evV0, r_evVc, r_eMt, r_eMs, r_eMe, r_eCall, r_eCallI, r_sSeq0, r_sSeqc, r_gN, r_gTs0, r_gTsc, r_gT, r_sAsg, r_evO0, r_evOc, r_stA0, r_stAc, r_sPar, r_sEx, r_sAug, r_sPut, r_sRet, r_sIf, r_sPass, r_sCont, r_sRaise, r_eVs, r_itV, r_itR1, r_itR2, r_itE, muT, asB, truth, tyD_l, tyD_d, tyD_s, oLst, oTup, oI?]; rfl, ?_⟩ <;> (((conv => arg 1; simp -implicitDefEqProofs [r_evA0, r_evAe, r_evAp, r_eOp, r_eC, r_eV, r_eM, r_tOf, r_tAr, r_tAn, r_tOr, r_tNo, r_tYs, r_eIf, r_eAn, r_eOr, r_eNo, r_evV0, r_evVc, r_eMt, r_eMs, r_eMe, r_eCall, r_eCallI, r_sSeq0, r_sSeqc, r_gN, r_gTs0, r_gTsc, r_gT, r_sAsg, r_evO0, r_evOc, r_stA0, r_stAc, r_sPar, r_sEx, r_sAug, r_sPut, r_sRet, r_sIf, r_sPass, r_sCont, r_sRaise, r_eVs, r_itV, r_itR1, r_itR2, r_itE, muT, asB, truth, tyD_l, tyD_d, tyD_s, oLst, oTup, hD, oCat_ints hc]); rw [wp_ok]); exact ⟨L ++ D, some _, rfl, hn⟩)
    · rintro e ⟨L, o2, rfl, hL⟩
      show wp (sSeq _ _) _ _
      have hlen : ((L.length : Int) = 0) = (L = []) := by
        apply propext
        constructor
        · intro h; exact List.length_eq_zero_iff.mp (by omega)
        · rintro rfl; rfl
      have fin : ∀ (row : List Int) (o2 : Option Int) (t : Tg), (t = .own ∨ t = .fz) → row ≠ [] → row.length < 1000000 → wp (sSeq [sRet (eDisp [(eC (.str "row"), eV 1), (eC (.str "at"), eC (.int 0))])] [some (intsL ns, Tg.fz), some (intsL row, t), oI? o2]) (retQ fun d o => o = true ∧ ∃ row, d = boxV row 0 ∧ row ≠ [] ∧ row.length < 1000000) (fun _ _ => False) := by
        intro row o2 t ht h1 h2
        rw [wp_seq]
        rcases ht with rfl | rfl <;> (((conv => arg 1; simp -implicitDefEqProofs [r_evA0, r_evAe, r_evAp, r_eOp, r_eC, r_eV, r_eM, r_tOf, r_tAr, r_tAn, r_tOr, r_tNo, r_tYs, r_eIf, r_eAn, r_eOr, r_eNo, r_evV0, r_evVc, r_eMt, r_eMs, r_eMe, r_eCall, r_eCallI, r_sSeq0, r_sSeqc, r_gN, r_gTs0, r_gTsc, r_gT, r_sAsg, r_evO0, r_evOc, r_stA0, r_stAc, r_sPar, r_sEx, r_sAug, r_sPut, r_sRet, r_sIf, r_sPass, r_sCont, r_sRaise, r_eVs, r_itV, r_itR1, r_itR2, r_itE, muT, asB, truth, tyD_l, tyD_d, tyD_s, oLst, oTup, eDisp, flatP, boxDisp, boxMerge]); rw [wp_ok]); exact ⟨rfl, row, rfl, h1, h2⟩)
      have hL2 : L.length < 1000000 := by simp only [List.length_map] at hL; omega
      by_cases h0 : L = []
      · subst h0
        (rw [wp_seq]; (conv => arg 1; simp -implicitDefEqProofs [r_evA0, r_evAe, r_evAp, r_eOp, r_eC, r_eV, r_eM, r_tOf, r_tAr, r_tAn, r_tOr, r_tNo, r_tYs, r_eIf, r_eAn, r_eOr, r_eNo, r_evV0, r_evVc, r_eMt, r_eMs, r_eMe, r_eCall, r_eCallI, r_sSeq0, r_sSeqc, r_gN, r_gTs0, r_gTsc, r_gT, r_sAsg, r_evO0, r_evOc, r_stA0, r_stAc, r_sPar, r_sEx, r_sAug, r_sPut, r_sRet, r_sIf, r_sPass, r_sCont, r_sRaise, r_eVs, r_itV, r_itR1, r_itR2, r_itE, muT, asB, truth, tyD_l, tyD_d, tyD_s, oLst, oTup, oLen_ints]); rw [wp_nx])
        exact fin [11, 5, 2, 7, 31, 101, 997] o2 .own (.inl rfl) (by simp) (by simp)
      · have hd : decide ((L.length : Int) = 0) = false := decide_eq_false fun z => h0 (by rw [hlen] at z; exact z)
        (rw [wp_seq]; (conv => arg 1; simp -implicitDefEqProofs [r_evA0, r_evAe, r_evAp, r_eOp, r_eC, r_eV, r_eM, r_tOf, r_tAr, r_tAn, r_tOr, r_tNo, r_tYs, r_eIf, r_eAn, r_eOr, r_eNo, r_evV0, r_evVc, r_eMt, r_eMs, r_eMe, r_eCall, r_eCallI, r_sSeq0, r_sSeqc, r_gN, r_gTs0, r_gTsc, r_gT, r_sAsg, r_evO0, r_evOc, r_stA0, r_stAc, r_sPar, r_sEx, r_sAug, r_sPut, r_sRet, r_sIf, r_sPass, r_sCont, r_sRaise, r_eVs, r_itV, r_itR1, r_itR2, r_itE, muT, asB, truth, tyD_l, tyD_d, tyD_s, oLst, oTup, oLen_ints, h0]); rw [wp_nx])
        exact fin L o2 .own (.inl rfl) h0 hL2
end Py
end
section
set_option linter.all false
namespace Py
open PySem L2
/-- where each throw of a row lands -/
def landV (R : List Int) : List Int := R.mapIdx fun i h => ((i : Int) + h) % R.length
theorem enum_map {R : List Int} (f : PyData → PyData) (g : Nat → Int → Int) (h : ∀ i x, f (.tuple [.int (i : Nat), .int x]) = .int (g i x)) : ∀ k, (enumFrom k (R.map PyData.int)).map f = (R.mapIdx fun i x => g (k + i) x).map .int := by
  induction R with
  | nil => intro k; rfl
  | cons x R ih =>
    intro k
    rw [List.map_cons, enumFrom, List.map_cons, ih (k + 1), List.mapIdx_cons, List.map_cons]
    congr 1
    · exact h k x
    · congr 1
      apply List.ext_getElem?
      intro i
      simp only [List.getElem?_mapIdx]
      congr 1
      funext y
      have : k + 1 + i = k + (i + 1) := by omega
      rw [this]
theorem landings_ok {R : List Int} (h0 : R ≠ []) (hl : R.length ≤ 16777216) : m_landings [intsT R] = .ret (intsL (landV R)) true .none := by
  have hp : (0 : Int) < R.length := by
    have : 0 < R.length := by cases R with
      | nil => exact absurd rfl h0
      | cons _ _ => simp
    omega
  have key : eLc (itE (eV 0)) [1, 2] (gT [gN 1, gN 2]) tYs (eOp oMod [.ev (eOp oAdd [.pk 1, .pk 2]), .ev (eOp oLen [.pk 0])]) [some (intsT R, Tg.fz), none, none] = .ok (intsL (landV R), true, [some (intsT R, Tg.fz), none, none]) := by

    have ei : itE (eV 0) [some (intsT R, Tg.fz), none, none] = .ok (enumFrom 0 (R.map .int), [some (intsT R, Tg.fz), none, none]) := by simp -implicitDefEqProofs [r_evA0, r_evAe, r_evAp, r_eOp, r_eC, r_eV, r_eM, r_tOf, r_tAr, r_tAn, r_tOr, r_tNo, r_tYs, r_eIf, r_eAn, r_eOr, r_eNo, r_evV0, r_evVc, r_eMt, r_eMs, r_eMe, r_eCall, r_eCallI, r_sSeq0, r_sSeqc, r_gN, r_gTs0, r_gTsc, r_gT, r_sAsg, r_evO0, r_evOc, r_stA0, r_stAc, r_sPar, r_sEx, r_sAug, r_sPut, r_sRet, r_sIf, r_sPass, r_sCont, r_sRaise, r_eVs, r_itV, r_itR1, r_itR2, r_itE, muT, asB, truth, tyD_l, tyD_d, tyD_s, oLst, oTup, intsT]
    rw [lc_eq (fun d => match d with | .tuple [.int i, .int x] => .int ((i + x) % R.length) | _ => .none) ei rfl (by rw [enum_len, List.length_map]; exact hl) (fun d hd => ?_) (by intro _; rfl) rfl]
    · rw [enum_map _ (fun i x => ((i : Int) + x) % R.length) (fun i x => rfl)]
      simp [landV, intsL]
    · obtain ⟨k, hk⟩ := List.getElem?_of_mem hd
      obtain ⟨i, h1, rfl⟩ := enum_ints hk
      refine ⟨[some (intsT R, Tg.fz), some (.int k, Tg.fz), some (.int i, Tg.fz)], false, [some (intsT R, Tg.fz), some (.int k, Tg.fz), some (.int i, Tg.fz)], by simp -implicitDefEqProofs [r_evA0, r_evAe, r_evAp, r_eOp, r_eC, r_eV, r_eM, r_tOf, r_tAr, r_tAn, r_tOr, r_tNo, r_tYs, r_eIf, r_eAn, r_eOr, r_eNo, r_evV0, r_evVc, r_eMt, r_eMs, r_eMe, r_eCall, r_eCallI, r_sSeq0, r_sSeqc, r_gN, r_gTs0, r_gTsc, r_gT, r_sAsg, r_evO0, r_evOc, r_stA0, r_stAc, r_sPar, r_sEx, r_sAug, r_sPut, r_sRet, r_sIf, r_sPass, r_sCont, r_sRaise, r_eVs, r_itV, r_itR1, r_itR2, r_itE, muT, asB, truth, tyD_l, tyD_d, tyD_s, oLst, oTup, wipeE], by simp -implicitDefEqProofs [r_evA0, r_evAe, r_evAp, r_eOp, r_eC, r_eV, r_eM, r_tOf, r_tAr, r_tAn, r_tOr, r_tNo, r_tYs, r_eIf, r_eAn, r_eOr, r_eNo, r_evV0, r_evVc, r_eMt, r_eMs, r_eMe, r_eCall, r_eCallI, r_sSeq0, r_sSeqc, r_gN, r_gTs0, r_gTsc, r_gT, r_sAsg, r_evO0, r_evOc, r_stA0, r_stAc, r_sPar, r_sEx, r_sAug, r_sPut, r_sRet, r_sIf, r_sPass, r_sCont, r_sRaise, r_eVs, r_itV, r_itR1, r_itR2, r_itE, muT, asB, truth, tyD_l, tyD_d, tyD_s, oLst, oTup, oLen_intsT, oMod_pos hp], rfl⟩
  refine (fn_run rfl).trans ?_
  unfold s_landings
  show fin (sSeq _ [some (intsT R, Tg.fz), none, none]) = _
  simp -implicitDefEqProofs [r_evA0, r_evAe, r_evAp, r_eOp, r_eC, r_eV, r_eM, r_tOf, r_tAr, r_tAn, r_tOr, r_tNo, r_tYs, r_eIf, r_eAn, r_eOr, r_eNo, r_evV0, r_evVc, r_eMt, r_eMs, r_eMe, r_eCall, r_eCallI, r_sSeq0, r_sSeqc, r_gN, r_gTs0, r_gTsc, r_gT, r_sAsg, r_evO0, r_evOc, r_stA0, r_stAc, r_sPar, r_sEx, r_sAug, r_sPut, r_sRet, r_sIf, r_sPass, r_sCont, r_sRaise, r_eVs, r_itV, r_itR1, r_itR2, r_itE, muT, asB, truth, tyD_l, tyD_d, tyD_s, oLst, oTup, key, fin]
end Py
end
section
set_option linter.all false
namespace Py
open PySem L2
/-! ### clash: the first beat that lands where an earlier one lands -/
/-- the dict seen after k beats: place to beat -/
def seenD (P : List Int) (k : Nat) : List (PyData × PyData) := ((P.take k).mapIdx fun i p => (PyData.int p, PyData.int (i : Nat)))
/-- the first two that are the same -/
def dupAt (P : List Int) (i j : Nat) : Prop := i < j ∧ j < P.length ∧ P[i]? = P[j]? ∧ ∀ a b, a < b → b < j → P[a]? ≠ P[b]?
theorem kE_int (a b : Int) : kE (.int a) (.int b) = decide (a = b) := rfl
theorem seenD_succ {P : List Int} {k : Nat} {p : Int} (h : P[k]? = some p) : seenD P (k + 1) = seenD P k ++ [(.int p, .int (k : Nat))] := by
  have hk : k < P.length := (List.getElem?_eq_some_iff.mp h).1
  unfold seenD
  rw [List.take_succ, h, List.mapIdx_append]
  simp [Nat.min_eq_left (Nat.le_of_lt hk)]
theorem dG_cons {a b k : PyData} {r : Kvs} : dG ((a, b) :: r) k = if kE a k then some b else dG r k := rfl
theorem dG_none {kvs : Kvs} {k : PyData} : dG kvs k = none ↔ ∀ p ∈ kvs, kE p.1 k = false := by
  induction kvs with
  | nil => simp [dG]
  | cons q r ih =>
    obtain ⟨a, b⟩ := q
    rw [dG_cons]
    by_cases h : kE a k = true
    · rw [if_pos h]
      constructor
      · intro z; cases z
      · intro z; have := z (a, b) List.mem_cons_self; rw [h] at this; cases this
    · rw [if_neg h, ih]
      simp only [List.mem_cons, forall_eq_or_imp]
      constructor
      · intro z; exact ⟨by simpa using h, z⟩
      · intro z; exact z.2
theorem dG_append {kvs l : Kvs} {k : PyData} : dG (kvs ++ l) k = match dG kvs k with
    | some v => some v
    | none => dG l k := by
  induction kvs with
  | nil => rfl
  | cons q r ih =>
    obtain ⟨a, b⟩ := q
    rw [List.cons_append, dG_cons, dG_cons]
    by_cases h : kE a k = true
    · rw [if_pos h, if_pos h]
    · rw [if_neg h, if_neg h, ih]
/-- the first i below k with P[i] = p -/
theorem seen_get {P : List Int} {k : Nat} (hk : k ≤ P.length) (hd : ∀ a b, a < b → b < k → P[a]? ≠ P[b]?) (p : Int) :
    (∃ i, i < k ∧ P[i]? = some p ∧ dG (seenD P k) (.int p) = some (.int (i : Nat))) ∨ ((∀ i, i < k → P[i]? ≠ some p) ∧ dG (seenD P k) (.int p) = none) := by
  induction k with
  | zero => exact .inr ⟨fun i h => absurd h (Nat.not_lt_zero _), rfl⟩
  | succ k ih =>
    have hk' : k < P.length := hk
    have e := List.getElem?_eq_getElem hk'
    rw [seenD_succ e, dG_append]
    rcases ih (Nat.le_of_lt hk') (fun a b h1 h2 => hd a b h1 (by omega)) with ⟨i, h1, h2, h3⟩ | ⟨h1, h2⟩
    · rw [h3]
      exact .inl ⟨i, by omega, h2, rfl⟩
    · rw [h2]
      show _ ∨ _ ∧ dG [(.int P[k], .int (k : Nat))] (.int p) = none
      rw [dG_cons, kE_int]
      by_cases hp : P[k] = p
      · refine .inl ⟨k, by omega, by rw [e, hp], ?_⟩
        show dG [(.int P[k], .int (k : Nat))] (.int p) = _
        rw [dG_cons, kE_int, if_pos (by simpa using hp)]
      · refine .inr ⟨fun i hi => ?_, by rw [if_neg (by simpa using hp)]; rfl⟩
        by_cases hik : i = k
        · rw [hik, e]; exact fun z => hp (Option.some.inj z)
        · exact h1 i (by omega)

theorem dK_int {kvs : Kvs} (h : ∀ p ∈ kvs, ∃ i : Int, p.1 = .int i) : dK? (.dict kvs) = some kvs := by
  cases kvs with
  | nil => rfl
  | cons q r =>
    obtain ⟨a, b⟩ := q
    obtain ⟨i, e⟩ := h _ List.mem_cons_self
    have e : a = .int i := e
    subst e
    rfl
theorem seenD_int {P : List Int} {k : Nat} : ∀ p ∈ seenD P k, ∃ i : Int, p.1 = .int i := fun p hp => by
  obtain ⟨i, hi⟩ := List.getElem?_of_mem hp
  unfold seenD at hi
  rw [List.getElem?_mapIdx] at hi
  obtain ⟨x, _, rfl⟩ := Option.map_eq_some_iff.mp hi
  exact ⟨_, rfl⟩
theorem dAt_int {kvs : Kvs} (h : ∀ p ∈ kvs, ∃ i : Int, p.1 = .int i) (p : Int) : dAt (.dict kvs) (.int p) = some (dG kvs (.int p)) := by
  unfold dAt
  show (dK? (.dict kvs)).map _ = _
  rw [dK_int h]
  rfl
theorem oIn_dict {kvs : Kvs} (h : ∀ p ∈ kvs, ∃ i : Int, p.1 = .int i) (p : Int) : oIn [.int p, .dict kvs] = some (.bool (dG kvs (.int p)).isSome, false) := by
  have e : oInD [.int p, .dict kvs] = some (.bool (dG kvs (.int p)).isSome, false) := by show (dAt (.dict kvs) (.int p)).map _ = _; rw [dAt_int h]; rfl
  have e1 : oInL [.int p, .dict kvs] = none := rfl
  unfold oIn oOr
  rw [e1, e]
theorem dS_new {kvs : Kvs} {k v : PyData} (h : dG kvs k = none) : dS kvs k v = kvs ++ [(k, v)] := by
  unfold dS
  have e : (kvs.any fun p => kE p.1 k) = false := by
    rw [List.any_eq_false]
    intro p hp
    rw [dG_none.mp h p hp]
    simp
  rw [e]
  rfl
theorem uSet_new {kvs : Kvs} (h : ∀ p ∈ kvs, ∃ i : Int, p.1 = .int i) {p : Int} {v : PyData} (hn : dG kvs (.int p) = none) (hl : kvs.length < 16777216) : uSet (.dict kvs) (.int p) v = some (.dict (kvs ++ [(.int p, v)])) := by
  have e : uDict (.dict kvs) (.int p) v = some (.dict (kvs ++ [(.int p, v)])) := by
    show (match dK? (.dict kvs) with
    | some kvs => if kvs.length < 16777216 then some (PyData.dict (dS kvs (.int p) v)) else none
    | none => none) = _
    rw [dK_int h]
    show (if kvs.length < 16777216 then some (PyData.dict (dS kvs (.int p) v)) else none) = _
    rw [if_pos hl, dS_new hn]
  have e1 : uList (PyData.dict kvs) (.int p) v = none := rfl
  unfold uSet s3Or
  rw [e1]
  exact e
theorem seenD_len {P : List Int} {k : Nat} (h : k ≤ P.length) : (seenD P k).length = k := by simp [seenD, Nat.min_eq_left h]
theorem landV_len (R : List Int) : (landV R).length = R.length := by simp [landV]

/-- clash's answer -/
def clashIs (P : List Int) (d : PyData) : Prop := (∃ i j : Nat, dupAt P i j ∧ d = .tuple [.int i, .int j]) ∨ ((∀ a b, a < b → b < P.length → P[a]? ≠ P[b]?) ∧ d = .none)
theorem clash_ok {R : List Int} (h0 : R ≠ []) (hl : R.length ≤ 1000000) : ∃ d, m_clash [intsT R] = .ret d false .none ∧ clashIs (landV R) d := by
  have key := fn_ret (n := 4) (k := 1) (body := sSeq s_clash) (ds := [intsT R]) (Z := fun d o => o = false ∧ clashIs (landV R) d) rfl ?_
  · obtain ⟨d, o, h1, rfl, h3⟩ := key
    exact ⟨d, h1, h3⟩
  · unfold s_clash
    show wp (sSeq _ [some (intsT R, Tg.fz), none, none, none]) _ _
    (rw [wp_seq]; (conv => arg 1; simp -implicitDefEqProofs [r_evA0, r_evAe, r_evAp, r_eOp, r_eC, r_eV, r_eM, r_tOf, r_tAr, r_tAn, r_tOr, r_tNo, r_tYs, r_eIf, r_eAn, r_eOr, r_eNo, r_evV0, r_evVc, r_eMt, r_eMs, r_eMe, r_eCall, r_eCallI, r_sSeq0, r_sSeqc, r_gN, r_gTs0, r_gTsc, r_gT, r_sAsg, r_evO0, r_evOc, r_stA0, r_stAc, r_sPar, r_sEx, r_sAug, r_sPut, r_sRet, r_sIf, r_sPass, r_sCont, r_sRaise, r_eVs, r_itV, r_itR1, r_itR2, r_itE, muT, asB, truth, tyD_l, tyD_d, tyD_s, oLst, oTup, eNewK]); rw [wp_nx])
    rw [wp_seq]
    have hP : (landV R).length = R.length := landV_len R
    refine wp_for (ds := enumFrom 0 ((landV R).map .int)) (by simp -implicitDefEqProofs [r_evA0, r_evAe, r_evAp, r_eOp, r_eC, r_eV, r_eM, r_tOf, r_tAr, r_tAn, r_tOr, r_tNo, r_tYs, r_eIf, r_eAn, r_eOr, r_eNo, r_evV0, r_evVc, r_eMt, r_eMs, r_eMe, r_eCall, r_eCallI, r_sSeq0, r_sSeqc, r_gN, r_gTs0, r_gTsc, r_gT, r_sAsg, r_evO0, r_evOc, r_stA0, r_stAc, r_sPar, r_sEx, r_sAug, r_sPut, r_sRet, r_sIf, r_sPass, r_sCont, r_sRaise, r_eVs, r_itV, r_itR1, r_itR2, r_itE, muT, asB, truth, tyD_l, tyD_d, tyD_s, oLst, oTup, landings_ok h0 (by omega : R.length ≤ 16777216), intsL]; exact ⟨rfl, rfl⟩) (fun k e => k ≤ (landV R).length ∧ (∀ a b, a < b → b < k → (landV R)[a]? ≠ (landV R)[b]?) ∧ ∃ (o2 o3 : Option Int), e = [some (intsT R, Tg.fz), some (.dict (seenD (landV R) k), Tg.own), oI? o2, oI? o3]) ⟨Nat.zero_le _, fun a b _ h => absurd h (Nat.not_lt_zero _), none, none, rfl⟩ ?_ ?_
    · rintro k d e hd ⟨hk, hdist, o2, o3, rfl⟩
      obtain ⟨p, hp, rfl⟩ := enum_ints hd
      have hk2 : k < (landV R).length := (List.getElem?_eq_some_iff.mp hp).1
      have hsl : (seenD (landV R) k).length < 16777216 := by rw [seenD_len hk]; omega
      refine ⟨[some (intsT R, Tg.fz), some (.dict (seenD (landV R) k), Tg.own), some (.int k, Tg.fz), some (.int p, Tg.fz)], by cases o2 <;> cases o3 <;> simp -implicitDefEqProofs [r_evA0, r_evAe, r_evAp, r_eOp, r_eC, r_eV, r_eM, r_tOf, r_tAr, r_tAn, r_tOr, r_tNo, r_tYs, r_eIf, r_eAn, r_eOr, r_eNo, r_evV0, r_evVc, r_eMt, r_eMs, r_eMe, r_eCall, r_eCallI, r_sSeq0, r_sSeqc, r_gN, r_gTs0, r_gTsc, r_gT, r_sAsg, r_evO0, r_evOc, r_stA0, r_stAc, r_sPar, r_sEx, r_sAug, r_sPut, r_sRet, r_sIf, r_sPass, r_sCont, r_sRaise, r_eVs, r_itV, r_itR1, r_itR2, r_itE, muT, asB, truth, tyD_l, tyD_d, tyD_s, oLst, oTup, oI?], ?_⟩
      rcases seen_get hk hdist p with ⟨i, h1, h2, h3⟩ | ⟨h1, h2⟩
      · have hix : oIx [.dict (seenD (landV R) k), .int p] = some (.int (i : Nat), false) := oIx_dict (by rw [dAt_int seenD_int, h3])
        rw [wp_seq]
        ((conv => arg 1; simp -implicitDefEqProofs [r_evA0, r_evAe, r_evAp, r_eOp, r_eC, r_eV, r_eM, r_tOf, r_tAr, r_tAn, r_tOr, r_tNo, r_tYs, r_eIf, r_eAn, r_eOr, r_eNo, r_evV0, r_evVc, r_eMt, r_eMs, r_eMe, r_eCall, r_eCallI, r_sSeq0, r_sSeqc, r_gN, r_gTs0, r_gTsc, r_gT, r_sAsg, r_evO0, r_evOc, r_stA0, r_stAc, r_sPar, r_sEx, r_sAug, r_sPut, r_sRet, r_sIf, r_sPass, r_sCont, r_sRaise, r_eVs, r_itV, r_itR1, r_itR2, r_itE, muT, asB, truth, tyD_l, tyD_d, tyD_s, oLst, oTup, oIn_dict seenD_int, h3, hix]); rw [wp_ok])
        exact ⟨rfl, .inl ⟨i, k, ⟨h1, hk2, h2.trans hp.symm, hdist⟩, rfl⟩⟩
      · rw [wp_seq]
        ((conv => arg 1; simp -implicitDefEqProofs [r_evA0, r_evAe, r_evAp, r_eOp, r_eC, r_eV, r_eM, r_tOf, r_tAr, r_tAn, r_tOr, r_tNo, r_tYs, r_eIf, r_eAn, r_eOr, r_eNo, r_evV0, r_evVc, r_eMt, r_eMs, r_eMe, r_eCall, r_eCallI, r_sSeq0, r_sSeqc, r_gN, r_gTs0, r_gTsc, r_gT, r_sAsg, r_evO0, r_evOc, r_stA0, r_stAc, r_sPar, r_sEx, r_sAug, r_sPut, r_sRet, r_sIf, r_sPass, r_sCont, r_sRaise, r_eVs, r_itV, r_itR1, r_itR2, r_itE, muT, asB, truth, tyD_l, tyD_d, tyD_s, oLst, oTup, oIn_dict seenD_int, h2]); rw [wp_ok])
        show wp (sSeq _ _) _ _
        rw [wp_seq]
        ((conv => arg 1; simp -implicitDefEqProofs [r_evA0, r_evAe, r_evAp, r_eOp, r_eC, r_eV, r_eM, r_tOf, r_tAr, r_tAn, r_tOr, r_tNo, r_tYs, r_eIf, r_eAn, r_eOr, r_eNo, r_evV0, r_evVc, r_eMt, r_eMs, r_eMe, r_eCall, r_eCallI, r_sSeq0, r_sSeqc, r_gN, r_gTs0, r_gTsc, r_gT, r_sAsg, r_evO0, r_evOc, r_stA0, r_stAc, r_sPar, r_sEx, r_sAug, r_sPut, r_sRet, r_sIf, r_sPass, r_sCont, r_sRaise, r_eVs, r_itV, r_itR1, r_itR2, r_itE, muT, asB, truth, tyD_l, tyD_d, tyD_s, oLst, oTup, uSet_new seenD_int h2 hsl]); rw [wp_ok])
        show wp (sSeq [] _) _ _
        rw [wp_nil]
        refine ⟨hk2, fun a b hab hb => ?_, some k, some p, by rw [seenD_succ hp]; rfl⟩
        by_cases hbk : b = k
        · subst hbk
          rw [hp]
          exact h1 a hab
        · exact hdist a b hab (by omega)
    · rintro e ⟨hk, hdist, o2, o3, rfl⟩
      rw [enum_len, List.length_map] at hdist
      show wp (sSeq _ _) _ _
      rw [wp_seq]
      ((conv => arg 1; simp -implicitDefEqProofs [r_evA0, r_evAe, r_evAp, r_eOp, r_eC, r_eV, r_eM, r_tOf, r_tAr, r_tAn, r_tOr, r_tNo, r_tYs, r_eIf, r_eAn, r_eOr, r_eNo, r_evV0, r_evVc, r_eMt, r_eMs, r_eMe, r_eCall, r_eCallI, r_sSeq0, r_sSeqc, r_gN, r_gTs0, r_gTsc, r_gT, r_sAsg, r_evO0, r_evOc, r_stA0, r_stAc, r_sPar, r_sEx, r_sAug, r_sPut, r_sRet, r_sIf, r_sPass, r_sCont, r_sRaise, r_eVs, r_itV, r_itR1, r_itR2, r_itE, muT, asB, truth, tyD_l, tyD_d, tyD_s, oLst, oTup]); rw [wp_ok])
      exact ⟨rfl, .inr ⟨hdist, rfl⟩⟩
end Py
end
section
set_option linter.all false
namespace Py
open PySem L2
theorem oIs_none (d : PyData) : oIs [d, .none] = some (.bool (isNone d), false) := rfl
theorem oIsNot_none (d : PyData) : oIsNot [d, .none] = some (.bool (!isNone d), false) := rfl
theorem isNone_tup (l : List PyData) : isNone (.tuple l) = false := rfl
theorem isNone_none : isNone .none = true := rfl
theorem can_ok {R : List Int} {d : PyData} (hc : m_clash [intsT R] = .ret d false .none) : m_can_be_juggled [intsT R] = .ret (.bool (isNone d)) false .none := by
  refine (fn_run rfl).trans ?_
  unfold s_can_be_juggled
  show fin (sSeq _ [some (intsT R, Tg.fz)]) = _
  simp -implicitDefEqProofs [r_evA0, r_evAe, r_evAp, r_eOp, r_eC, r_eV, r_eM, r_tOf, r_tAr, r_tAn, r_tOr, r_tNo, r_tYs, r_eIf, r_eAn, r_eOr, r_eNo, r_evV0, r_evVc, r_eMt, r_eMs, r_eMe, r_eCall, r_eCallI, r_sSeq0, r_sSeqc, r_gN, r_gTs0, r_gTsc, r_gT, r_sAsg, r_evO0, r_evOc, r_stA0, r_stAc, r_sPar, r_sEx, r_sAug, r_sPut, r_sRet, r_sIf, r_sPass, r_sCont, r_sRaise, r_eVs, r_itV, r_itR1, r_itR2, r_itE, muT, asB, truth, tyD_l, tyD_d, tyD_s, oLst, oTup, hc, oIs_none, fin]
theorem check_none {R : List Int} (hc : m_clash [intsT R] = .ret .none false .none) : m_check_row [intsT R] = .ret .none false .none := by
  refine (fn_run rfl).trans ?_
  unfold s_check_row
  show fin (sSeq _ [some (intsT R, Tg.fz), none]) = _
  simp -implicitDefEqProofs [r_evA0, r_evAe, r_evAp, r_eOp, r_eC, r_eV, r_eM, r_tOf, r_tAr, r_tAn, r_tOr, r_tNo, r_tYs, r_eIf, r_eAn, r_eOr, r_eNo, r_evV0, r_evVc, r_eMt, r_eMs, r_eMe, r_eCall, r_eCallI, r_sSeq0, r_sSeqc, r_gN, r_gTs0, r_gTsc, r_gT, r_sAsg, r_evO0, r_evOc, r_stA0, r_stAc, r_sPar, r_sEx, r_sAug, r_sPut, r_sRet, r_sIf, r_sPass, r_sCont, r_sRaise, r_eVs, r_itV, r_itR1, r_itR2, r_itE, muT, asB, truth, tyD_l, tyD_d, tyD_s, oLst, oTup, hc, oIsNot_none, isNone_none, fin]
theorem oIx_pair1 (a b : PyData) : oIx [.tuple [a, b], .int 1] = some (b, false) := oIx_tuple (by decide) rfl
theorem check_some {R : List Int} {i j : Nat} (hj : j < 100) (hc : m_clash [intsT R] = .ret (.tuple [.int i, .int j]) false .none) : m_check_row [intsT R] = .ex "Dropped" (.int j) := by
  refine (fn_run rfl).trans ?_
  unfold s_check_row
  show fin (sSeq _ [some (intsT R, Tg.fz), none]) = _
  have ho : okI (.int j) = true := by
    show (decide ((0 : Int) ≤ j) && decide ((j : Int) < 100)) = true
    rw [decide_eq_true (by omega), decide_eq_true (by omega)]; rfl
  simp -implicitDefEqProofs [r_evA0, r_evAe, r_evAp, r_eOp, r_eC, r_eV, r_eM, r_tOf, r_tAr, r_tAn, r_tOr, r_tNo, r_tYs, r_eIf, r_eAn, r_eOr, r_eNo, r_evV0, r_evVc, r_eMt, r_eMs, r_eMe, r_eCall, r_eCallI, r_sSeq0, r_sSeqc, r_gN, r_gTs0, r_gTsc, r_gT, r_sAsg, r_evO0, r_evOc, r_stA0, r_stAc, r_sPar, r_sEx, r_sAug, r_sPut, r_sRet, r_sIf, r_sPass, r_sCont, r_sRaise, r_eVs, r_itV, r_itR1, r_itR2, r_itE, muT, asB, truth, tyD_l, tyD_d, tyD_s, oLst, oTup, hc, oIsNot_none, isNone_tup, oIx_pair1, ho, fin]
theorem oSum_intsT (R : List Int) : oSum [intsT R] = some (.int R.sum, false) := by
  show (intsOf (intsT R)).map _ = _
  have : intsOf (intsT R) = some R := by simp [intsOf, intsT]
  rw [this]; rfl
theorem balls_none {R : List Int} (h0 : R ≠ []) (hl : R.length ≤ 1000000) (hc : m_clash [intsT R] = .ret .none false .none) : m_balls [intsT R] = .ret (.int (R.sum / R.length)) false .none := by
  have hp : (0 : Int) < R.length := by
    have : 0 < R.length := by cases R with
      | nil => exact absurd rfl h0
      | cons _ _ => simp
    omega
  refine (fn_run rfl).trans ?_
  unfold s_balls
  show fin (sSeq _ [some (intsT R, Tg.fz)]) = _
  simp -implicitDefEqProofs [r_evA0, r_evAe, r_evAp, r_eOp, r_eC, r_eV, r_eM, r_tOf, r_tAr, r_tAn, r_tOr, r_tNo, r_tYs, r_eIf, r_eAn, r_eOr, r_eNo, r_evV0, r_evVc, r_eMt, r_eMs, r_eMe, r_eCall, r_eCallI, r_sSeq0, r_sSeqc, r_gN, r_gTs0, r_gTsc, r_gT, r_sAsg, r_evO0, r_evOc, r_stA0, r_stAc, r_sPar, r_sEx, r_sAug, r_sPut, r_sRet, r_sIf, r_sPass, r_sCont, r_sRaise, r_eVs, r_itV, r_itR1, r_itR2, r_itE, muT, asB, truth, tyD_l, tyD_d, tyD_s, oLst, oTup, check_none hc, oSum_intsT, oLen_intsT, oDiv_pos hp (by omega), fin]
theorem balls_some {R : List Int} {i j : Nat} (hj : j < 100) (hc : m_clash [intsT R] = .ret (.tuple [.int i, .int j]) false .none) : m_balls [intsT R] = .ex "Dropped" (.int j) := by
  refine (fn_run rfl).trans ?_
  unfold s_balls
  show fin (sSeq _ [some (intsT R, Tg.fz)]) = _
  simp -implicitDefEqProofs [r_evA0, r_evAe, r_evAp, r_eOp, r_eC, r_eV, r_eM, r_tOf, r_tAr, r_tAn, r_tOr, r_tNo, r_tYs, r_eIf, r_eAn, r_eOr, r_eNo, r_evV0, r_evVc, r_eMt, r_eMs, r_eMe, r_eCall, r_eCallI, r_sSeq0, r_sSeqc, r_gN, r_gTs0, r_gTsc, r_gT, r_sAsg, r_evO0, r_evOc, r_stA0, r_stAc, r_sPar, r_sEx, r_sAug, r_sPut, r_sRet, r_sIf, r_sPass, r_sCont, r_sRaise, r_eVs, r_itV, r_itR1, r_itR2, r_itE, muT, asB, truth, tyD_l, tyD_d, tyD_s, oLst, oTup, check_some hj hc, fin]
end Py
end
section
set_option linter.all false
namespace Py
open PySem L2
/-! ### moves: place to beat -/
theorem landV_get {R : List Int} {k : Nat} {h : Int} (e : R[k]? = some h) : (landV R)[k]? = some (((k : Int) + h) % R.length) := by
  unfold landV
  rw [List.getElem?_mapIdx, e]
  rfl
theorem landV_lt {R : List Int} {p : Int} (hp : p ∈ landV R) : 0 ≤ p ∧ p < R.length := by
  obtain ⟨k, hk⟩ := List.getElem?_of_mem hp
  have hk2 : k < R.length := by have := (List.getElem?_eq_some_iff.mp hk).1; rw [landV_len] at this; exact this
  rw [landV_get (List.getElem?_eq_getElem hk2)] at hk
  cases hk
  exact ⟨Int.emod_nonneg _ (by omega), Int.emod_lt_of_pos _ (by omega)⟩
theorem lim63 {n : Nat} (h : n ≤ 1000000) : -(2 ^ 63 : Int) ≤ (n : Int) ∧ (n : Int) < 2 ^ 63 := by
  have e : (2 : Int) ^ 63 = 9223372036854775808 := by decide
  rw [e]
  omega
theorem zA {n : Nat} : oMulI [intsL [0], .int (n : Int)] = none := by unfold oMulI oOr oI; rfl
theorem zB {n : Nat} (h : n ≤ 1000000) : ([PyData.int 0] : List PyData).length * (n : Int).toNat ≤ 16777216 := by
  rw [List.length_singleton, Nat.one_mul, Int.toNat_natCast]
  exact Nat.le_trans h (by decide)
theorem zC {xs : List PyData} {k : Int} (h : -(2 ^ 63) ≤ k ∧ k < 2 ^ 63 ∧ xs.length * k.toNat ≤ 16777216) : oRepL [.list xs, .int k] = some (.list (List.replicate k.toNat xs).flatten, true) := by
  simp only [oRepL, h, and_self, if_true]
theorem zD (n : Nat) : (List.replicate n [PyData.int 0]).flatten = (List.replicate n (0 : Int)).map PyData.int := by
  induction n with
  | zero => rfl
  | succ n ih => rw [List.replicate_succ, List.flatten_cons, ih, List.replicate_succ]; rfl
theorem zE {n : Nat} (h : n ≤ 1000000) : oRepL [intsL [0], .int (n : Int)] = some (intsL (List.replicate n 0), true) := by
    have e := zC (xs := [.int 0]) (k := (n : Int)) ⟨(lim63 h).1, (lim63 h).2, zB h⟩
    rw [Int.toNat_natCast, zD] at e
    exact e
theorem oMul_zeros {n : Nat} (h : n ≤ 1000000) : oMul [intsL [0], .int n] = some (intsL (List.replicate n 0), true) := by
  unfold oMul
  rw [oOr, zA]
  show oOr oRepL oRepT _ = _
  rw [oOr, zE h]
/-- the places set one after another -/
def movV (P : List Int) (n : Nat) : Nat → List Int
  | 0 => List.replicate n 0
  | k + 1 => (movV P n k).set (P.getD k 0).toNat (k : Nat)
theorem movV_len (P : List Int) (n k : Nat) : (movV P n k).length = n := by
  induction k with
  | zero => simp [movV]
  | succ k ih => simp [movV, ih]
theorem uSet_ints {L : List Int} {i v : Int} (h0 : 0 ≤ i) (h : i < L.length) : uSet (intsL L) (.int i) (.int v) = some (intsL (L.set i.toNat v)) := by
  have e : uList (intsL L) (.int i) (.int v) = some (intsL (L.set i.toNat v)) := by
    show (ixN (L.map PyData.int).length i).map _ = _
    rw [List.length_map, ixN_nn h0 h]
    simp [intsL, List.map_set]
  unfold uSet s3Or
  rw [e]
theorem moves_none {R : List Int} (h0 : R ≠ []) (hl : R.length ≤ 1000000) (hc : m_clash [intsT R] = .ret .none false .none) : m_moves [intsT R] = .ret (intsL (movV (landV R) R.length R.length)) true .none := by
  have key := fn_ret (n := 4) (k := 1) (body := sSeq s_moves) (ds := [intsT R]) (Z := fun d o => o = true ∧ d = intsL (movV (landV R) R.length R.length)) rfl ?_
  · obtain ⟨d, o, h1, rfl, rfl⟩ := key
    exact h1
  · unfold s_moves
    show wp (sSeq _ [some (intsT R, Tg.fz), none, none, none]) _ _
    (rw [wp_seq]; (conv => arg 1; simp -implicitDefEqProofs [r_evA0, r_evAe, r_evAp, r_eOp, r_eC, r_eV, r_eM, r_tOf, r_tAr, r_tAn, r_tOr, r_tNo, r_tYs, r_eIf, r_eAn, r_eOr, r_eNo, r_evV0, r_evVc, r_eMt, r_eMs, r_eMe, r_eCall, r_eCallI, r_sSeq0, r_sSeqc, r_gN, r_gTs0, r_gTsc, r_gT, r_sAsg, r_evO0, r_evOc, r_stA0, r_stAc, r_sPar, r_sEx, r_sAug, r_sPut, r_sRet, r_sIf, r_sPass, r_sCont, r_sRaise, r_eVs, r_itV, r_itR1, r_itR2, r_itE, muT, asB, truth, tyD_l, tyD_d, tyD_s, oLst, oTup, check_none hc]); rw [wp_nx])
    have hz : (PyData.list [PyData.int 0]) = intsL [0] := rfl
    (rw [wp_seq]; (conv => arg 1; simp -implicitDefEqProofs [r_evA0, r_evAe, r_evAp, r_eOp, r_eC, r_eV, r_eM, r_tOf, r_tAr, r_tAn, r_tOr, r_tNo, r_tYs, r_eIf, r_eAn, r_eOr, r_eNo, r_evV0, r_evVc, r_eMt, r_eMs, r_eMe, r_eCall, r_eCallI, r_sSeq0, r_sSeqc, r_gN, r_gTs0, r_gTsc, r_gT, r_sAsg, r_evO0, r_evOc, r_stA0, r_stAc, r_sPar, r_sEx, r_sAug, r_sPut, r_sRet, r_sIf, r_sPass, r_sCont, r_sRaise, r_eVs, r_itV, r_itR1, r_itR2, r_itE, muT, asB, truth, tyD_l, tyD_d, tyD_s, oLst, oTup, hz, oLen_intsT, oMul_zeros hl]); rw [wp_nx])
    rw [wp_seq]
    have hP : (landV R).length = R.length := landV_len R
    have ei : ∀ s1 : Slot, itE (eCall m_landings [eV 0]) [some (intsT R, Tg.fz), s1, none, none] = .ok (enumFrom 0 ((landV R).map .int), [some (intsT R, Tg.fz), s1, none, none]) := fun s1 => by simp -implicitDefEqProofs [r_evA0, r_evAe, r_evAp, r_eOp, r_eC, r_eV, r_eM, r_tOf, r_tAr, r_tAn, r_tOr, r_tNo, r_tYs, r_eIf, r_eAn, r_eOr, r_eNo, r_evV0, r_evVc, r_eMt, r_eMs, r_eMe, r_eCall, r_eCallI, r_sSeq0, r_sSeqc, r_gN, r_gTs0, r_gTsc, r_gT, r_sAsg, r_evO0, r_evOc, r_stA0, r_stAc, r_sPar, r_sEx, r_sAug, r_sPut, r_sRet, r_sIf, r_sPass, r_sCont, r_sRaise, r_eVs, r_itV, r_itR1, r_itR2, r_itE, muT, asB, truth, tyD_l, tyD_d, tyD_s, oLst, oTup, landings_ok h0 (by omega : R.length ≤ 16777216), intsL]
    refine wp_for (ds := enumFrom 0 ((landV R).map .int)) (ei _) (e1 := [some (intsT R, Tg.fz), some (intsL (movV (landV R) R.length 0), Tg.own), none, none]) (fun k e => ∃ (o2 o3 : Option Int), e = [some (intsT R, Tg.fz), some (intsL (movV (landV R) R.length k), Tg.own), oI? o2, oI? o3]) ⟨none, none, rfl⟩ ?_ ?_
    · rintro k d e hd ⟨o2, o3, rfl⟩
      obtain ⟨p, hp, rfl⟩ := enum_ints hd
      obtain ⟨p1, p2⟩ := landV_lt (List.mem_of_getElem? hp)
      refine ⟨[some (intsT R, Tg.fz), some (intsL (movV (landV R) R.length k), Tg.own), some (.int k, Tg.fz), some (.int p, Tg.fz)], by cases o2 <;> cases o3 <;> simp -implicitDefEqProofs [r_evA0, r_evAe, r_evAp, r_eOp, r_eC, r_eV, r_eM, r_tOf, r_tAr, r_tAn, r_tOr, r_tNo, r_tYs, r_eIf, r_eAn, r_eOr, r_eNo, r_evV0, r_evVc, r_eMt, r_eMs, r_eMe, r_eCall, r_eCallI, r_sSeq0, r_sSeqc, r_gN, r_gTs0, r_gTsc, r_gT, r_sAsg, r_evO0, r_evOc, r_stA0, r_stAc, r_sPar, r_sEx, r_sAug, r_sPut, r_sRet, r_sIf, r_sPass, r_sCont, r_sRaise, r_eVs, r_itV, r_itR1, r_itR2, r_itE, muT, asB, truth, tyD_l, tyD_d, tyD_s, oLst, oTup, oI?], ?_⟩
      rw [wp_seq]
      ((conv => arg 1; simp -implicitDefEqProofs [r_evA0, r_evAe, r_evAp, r_eOp, r_eC, r_eV, r_eM, r_tOf, r_tAr, r_tAn, r_tOr, r_tNo, r_tYs, r_eIf, r_eAn, r_eOr, r_eNo, r_evV0, r_evVc, r_eMt, r_eMs, r_eMe, r_eCall, r_eCallI, r_sSeq0, r_sSeqc, r_gN, r_gTs0, r_gTsc, r_gT, r_sAsg, r_evO0, r_evOc, r_stA0, r_stAc, r_sPar, r_sEx, r_sAug, r_sPut, r_sRet, r_sIf, r_sPass, r_sCont, r_sRaise, r_eVs, r_itV, r_itR1, r_itR2, r_itE, muT, asB, truth, tyD_l, tyD_d, tyD_s, oLst, oTup, uSet_ints p1 (by rw [movV_len]; exact p2 : p < (movV (landV R) R.length k).length)]); rw [wp_ok])
      show wp (sSeq [] _) _ _
      rw [wp_nil]
      exact ⟨some k, some p, by rw [movV, List.getD_eq_getElem?_getD, hp]; rfl⟩
    · rintro e ⟨o2, o3, rfl⟩
      rw [enum_len, List.length_map, hP]
      show wp (sSeq _ _) _ _
      rw [wp_seq]
      ((conv => arg 1; simp -implicitDefEqProofs [r_evA0, r_evAe, r_evAp, r_eOp, r_eC, r_eV, r_eM, r_tOf, r_tAr, r_tAn, r_tOr, r_tNo, r_tYs, r_eIf, r_eAn, r_eOr, r_eNo, r_evV0, r_evVc, r_eMt, r_eMs, r_eMe, r_eCall, r_eCallI, r_sSeq0, r_sSeqc, r_gN, r_gTs0, r_gTsc, r_gT, r_sAsg, r_evO0, r_evOc, r_stA0, r_stAc, r_sPar, r_sEx, r_sAug, r_sPut, r_sRet, r_sIf, r_sPass, r_sCont, r_sRaise, r_eVs, r_itV, r_itR1, r_itR2, r_itE, muT, asB, truth, tyD_l, tyD_d, tyD_s, oLst, oTup]); rw [wp_ok])
      exact ⟨rfl, rfl⟩
theorem moves_some {R : List Int} {i j : Nat} (hj : j < 100) (hc : m_clash [intsT R] = .ret (.tuple [.int i, .int j]) false .none) : m_moves [intsT R] = .ex "Dropped" (.int j) := by
  refine (fn_run rfl).trans ?_
  unfold s_moves
  show fin (sSeq _ [some (intsT R, Tg.fz), none, none, none]) = _
  simp -implicitDefEqProofs [r_evA0, r_evAe, r_evAp, r_eOp, r_eC, r_eV, r_eM, r_tOf, r_tAr, r_tAn, r_tOr, r_tNo, r_tYs, r_eIf, r_eAn, r_eOr, r_eNo, r_evV0, r_evVc, r_eMt, r_eMs, r_eMe, r_eCall, r_eCallI, r_sSeq0, r_sSeqc, r_gN, r_gTs0, r_gTsc, r_gT, r_sAsg, r_evO0, r_evOc, r_stA0, r_stAc, r_sPar, r_sEx, r_sAug, r_sPut, r_sRet, r_sIf, r_sPass, r_sCont, r_sRaise, r_eVs, r_itV, r_itR1, r_itR2, r_itE, muT, asB, truth, tyD_l, tyD_d, tyD_s, oLst, oTup, check_some hj hc, fin]
end Py
end
section
set_option linter.all false
namespace Py
open PySem L2
theorem lenp {R : List Int} (h0 : R ≠ []) : (0 : Int) < R.length := by
  have : 0 < R.length := List.length_pos_iff.mpr h0
  omega
theorem row_ix {R : List Int} (h0 : R ≠ []) (b : Int) : oIx [intsT R, .int (b % R.length)] = some (.int (rowV R b), false) :=
  oIx_intsT' (Int.emod_nonneg _ (Int.ne_of_gt (lenp h0))) (Int.emod_lt_of_pos _ (lenp h0))
theorem height_ok {R : List Int} (h0 : R ≠ []) (b : Int) : m_height_at [intsT R, .int b] = .ret (.int (rowV R b)) false .none := by
  refine (fn_run rfl).trans ?_
  unfold s_height_at
  show fin (sSeq _ [some (intsT R, Tg.fz), some (.int b, Tg.fz)]) = _
  simp -implicitDefEqProofs [r_evA0, r_evAe, r_evAp, r_eOp, r_eC, r_eV, r_eM, r_tOf, r_tAr, r_tAn, r_tOr, r_tNo, r_tYs, r_eIf, r_eAn, r_eOr, r_eNo, r_evV0, r_evVc, r_eMt, r_eMs, r_eMe, r_eCall, r_eCallI, r_sSeq0, r_sSeqc, r_gN, r_gTs0, r_gTsc, r_gT, r_sAsg, r_evO0, r_evOc, r_stA0, r_stAc, r_sPar, r_sEx, r_sAug, r_sPut, r_sRet, r_sIf, r_sPass, r_sCont, r_sRaise, r_eVs, r_itV, r_itR1, r_itR2, r_itE, muT, asB, truth, tyD_l, tyD_d, tyD_s, oLst, oTup, oLen_intsT, oMod_pos (lenp h0), row_ix h0, fin]
theorem lands_ok {R : List Int} (h0 : R ≠ []) (b : Int) : m_lands [intsT R, .int b] = .ret (.int (b + rowV R b)) false .none := by
  refine (fn_run rfl).trans ?_
  unfold s_lands
  show fin (sSeq _ [some (intsT R, Tg.fz), some (.int b, Tg.fz)]) = _
  simp -implicitDefEqProofs [r_evA0, r_evAe, r_evAp, r_eOp, r_eC, r_eV, r_eM, r_tOf, r_tAr, r_tAn, r_tOr, r_tNo, r_tYs, r_eIf, r_eAn, r_eOr, r_eNo, r_evV0, r_evVc, r_eMt, r_eMs, r_eMe, r_eCall, r_eCallI, r_sSeq0, r_sSeqc, r_gN, r_gTs0, r_gTsc, r_gT, r_sAsg, r_evO0, r_evOc, r_stA0, r_stAc, r_sPar, r_sEx, r_sAug, r_sPut, r_sRet, r_sIf, r_sPass, r_sCont, r_sRaise, r_eVs, r_itV, r_itR1, r_itR2, r_itE, muT, asB, truth, tyD_l, tyD_d, tyD_s, oLst, oTup, height_ok h0, fin]
theorem movV_get {P : List Int} {n k s : Nat} {p : Int} (hn : ∀ a b, a < b → b < P.length → P[a]? ≠ P[b]?) (hr : ∀ x, x ∈ P → 0 ≤ x ∧ x < (n : Int)) (hk : k ≤ P.length) (hs : s < k) (hp : P[s]? = some p) : (movV P n k)[p.toNat]? = some (s : Int) := by
  induction k with
  | zero => omega
  | succ k ih =>
    rw [movV]
    have hk2 : k < P.length := hk
    have ek := List.getElem?_eq_getElem hk2
    have hpr := hr p (List.mem_of_getElem? hp)
    by_cases e : s = k
    · subst e
      rw [List.getD_eq_getElem?_getD, hp, Option.getD_some, List.getElem?_set_self (by rw [movV_len]; omega)]
    · have hsk : s < k := by omega
      have hne : P.getD k 0 ≠ p := by
        rw [List.getD_eq_getElem?_getD, ek]
        intro z
        exact hn s k hsk hk2 (by rw [hp, ek]; exact congrArg some z.symm)
      have hkr : 0 ≤ P.getD k 0 := by rw [List.getD_eq_getElem?_getD, ek]; exact (hr _ (List.getElem_mem hk2)).1
      rw [List.getElem?_set_ne (by omega)]
      exact ih (by omega) hsk
theorem jug_moves {R : List Int} (J : Jug R) {s : Nat} (hs : s < R.length) {p : Int} (h : ((s : Int) + R.getD s 0) % R.length = p) : (movV (landV R) R.length R.length)[p.toNat]? = some (s : Int) :=
  movV_get (P := landV R) (nd_iff.mp J.nd) J.land_mem (Nat.le_of_eq (landV_len R).symm) hs (by rw [← h]; exact landV'_get hs)
theorem thrown_ok {R : List Int} (J : Jug R) (hl : R.length ≤ 1000000) (hc : m_clash [intsT R] = .ret .none false .none) (b : Int) {s : Nat} (hs : s < R.length) (h : ((s : Int) + R.getD s 0) % R.length = b % R.length) : m_thrown_at [intsT R, .int b] = .ret (.int (b - (R.getD s 0))) false .none := by
  have hp := J.len
  have e1 : oIx [intsL (movV (landV R) R.length R.length), .int (b % R.length)] = some (.int (s : Int), false) := by
    refine oIx_list (Int.emod_nonneg _ (Int.ne_of_gt hp)) ?_
    rw [List.getElem?_map, jug_moves J hs h]; rfl
  have e2 : oIx [intsT R, .int (s : Int)] = some (.int (R.getD s 0), false) := oIx_intsT' (by omega) (by omega)
  refine (fn_run rfl).trans ?_
  unfold s_thrown_at
  show fin (sSeq _ [some (intsT R, Tg.fz), some (.int b, Tg.fz), none, none, none]) = _
  simp -implicitDefEqProofs [r_evA0, r_evAe, r_evAp, r_eOp, r_eC, r_eV, r_eM, r_tOf, r_tAr, r_tAn, r_tOr, r_tNo, r_tYs, r_eIf, r_eAn, r_eOr, r_eNo, r_evV0, r_evVc, r_eMt, r_eMs, r_eMe, r_eCall, r_eCallI, r_sSeq0, r_sSeqc, r_gN, r_gTs0, r_gTsc, r_gT, r_sAsg, r_evO0, r_evOc, r_stA0, r_stAc, r_sPar, r_sEx, r_sAug, r_sPut, r_sRet, r_sIf, r_sPass, r_sCont, r_sRaise, r_eVs, r_itV, r_itR1, r_itR2, r_itE, muT, asB, truth, tyD_l, tyD_d, tyD_s, oLst, oTup, oLen_intsT, oMod_pos hp, moves_none J.pos hl hc, e1, e2, fin]
theorem air_ok {R : List Int} (h0 : R ≠ []) (hc : m_clash [intsT R] = .ret .none false .none) (b : Int) : m_in_air [intsT R, .int b] = .ret (.int (airV R b)) false .none := by
  have key := fn_ret (n := 4) (k := 2) (body := sSeq s_in_air) (ds := [intsT R, .int b]) (Z := fun d o => o = false ∧ d = .int (airV R b)) rfl ?_
  · obtain ⟨d, o, h1, rfl, rfl⟩ := key
    exact h1
  · unfold s_in_air
    show wp (sSeq _ [some (intsT R, Tg.fz), some (.int b, Tg.fz), none, none]) _ _
    (rw [wp_seq]; (conv => arg 1; simp -implicitDefEqProofs [r_evA0, r_evAe, r_evAp, r_eOp, r_eC, r_eV, r_eM, r_tOf, r_tAr, r_tAn, r_tOr, r_tNo, r_tYs, r_eIf, r_eAn, r_eOr, r_eNo, r_evV0, r_evVc, r_eMt, r_eMs, r_eMe, r_eCall, r_eCallI, r_sSeq0, r_sSeqc, r_gN, r_gTs0, r_gTsc, r_gT, r_sAsg, r_evO0, r_evOc, r_stA0, r_stAc, r_sPar, r_sEx, r_sAug, r_sPut, r_sRet, r_sIf, r_sPass, r_sCont, r_sRaise, r_eVs, r_itV, r_itR1, r_itR2, r_itE, muT, asB, truth, tyD_l, tyD_d, tyD_s, oLst, oTup, check_none hc]); rw [wp_nx])
    (rw [wp_seq]; (conv => arg 1; simp -implicitDefEqProofs [r_evA0, r_evAe, r_evAp, r_eOp, r_eC, r_eV, r_eM, r_tOf, r_tAr, r_tAn, r_tOr, r_tNo, r_tYs, r_eIf, r_eAn, r_eOr, r_eNo, r_evV0, r_evVc, r_eMt, r_eMs, r_eMe, r_eCall, r_eCallI, r_sSeq0, r_sSeqc, r_gN, r_gTs0, r_gTsc, r_gT, r_sAsg, r_evO0, r_evOc, r_stA0, r_stAc, r_sPar, r_sEx, r_sAug, r_sPut, r_sRet, r_sIf, r_sPass, r_sCont, r_sRaise, r_eVs, r_itV, r_itR1, r_itR2, r_itE, muT, asB, truth, tyD_l, tyD_d, tyD_s, oLst, oTup]); rw [wp_nx])
    rw [wp_seq]
    refine wp_for (ds := rangeL 0 36) (by simp -implicitDefEqProofs [r_evA0, r_evAe, r_evAp, r_eOp, r_eC, r_eV, r_eM, r_tOf, r_tAr, r_tAn, r_tOr, r_tNo, r_tYs, r_eIf, r_eAn, r_eOr, r_eNo, r_evV0, r_evVc, r_eMt, r_eMs, r_eMe, r_eCall, r_eCallI, r_sSeq0, r_sSeqc, r_gN, r_gTs0, r_gTsc, r_gT, r_sAsg, r_evO0, r_evOc, r_stA0, r_stAc, r_sPar, r_sEx, r_sAug, r_sPut, r_sRet, r_sIf, r_sPass, r_sCont, r_sRaise, r_eVs, r_itV, r_itR1, r_itR2, r_itE, muT, asB, truth, tyD_l, tyD_d, tyD_s, oLst, oTup, lim62]; exact ⟨rfl, rfl⟩) (fun k e => ∃ o3 : Option Int, e = [some (intsT R, Tg.fz), some (.int b, Tg.fz), some (.int (S k fun j => if decide (rowV R (b - j) > j) then 1 else 0), Tg.fz), oI? o3]) ⟨none, rfl⟩ ?_ ?_
    · rintro k d e hd ⟨o3, rfl⟩
      obtain ⟨hk, rfl⟩ := range_get hd
      refine ⟨[some (intsT R, Tg.fz), some (.int b, Tg.fz), some (.int (S k fun j => if decide (rowV R (b - j) > j) then 1 else 0), Tg.fz), some (.int k, Tg.fz)], by simp -implicitDefEqProofs [r_evA0, r_evAe, r_evAp, r_eOp, r_eC, r_eV, r_eM, r_tOf, r_tAr, r_tAn, r_tOr, r_tNo, r_tYs, r_eIf, r_eAn, r_eOr, r_eNo, r_evV0, r_evVc, r_eMt, r_eMs, r_eMe, r_eCall, r_eCallI, r_sSeq0, r_sSeqc, r_gN, r_gTs0, r_gTsc, r_gT, r_sAsg, r_evO0, r_evOc, r_stA0, r_stAc, r_sPar, r_sEx, r_sAug, r_sPut, r_sRet, r_sIf, r_sPass, r_sCont, r_sRaise, r_eVs, r_itV, r_itR1, r_itR2, r_itE, muT, asB, truth, tyD_l, tyD_d, tyD_s, oLst, oTup], ?_⟩
      rw [wp_seq]
      ((conv => arg 1; simp -implicitDefEqProofs [r_evA0, r_evAe, r_evAp, r_eOp, r_eC, r_eV, r_eM, r_tOf, r_tAr, r_tAn, r_tOr, r_tNo, r_tYs, r_eIf, r_eAn, r_eOr, r_eNo, r_evV0, r_evVc, r_eMt, r_eMs, r_eMe, r_eCall, r_eCallI, r_sSeq0, r_sSeqc, r_gN, r_gTs0, r_gTsc, r_gT, r_sAsg, r_evO0, r_evOc, r_stA0, r_stAc, r_sPar, r_sEx, r_sAug, r_sPut, r_sRet, r_sIf, r_sPass, r_sCont, r_sRaise, r_eVs, r_itV, r_itR1, r_itR2, r_itE, muT, asB, truth, tyD_l, tyD_d, tyD_s, oLst, oTup, height_ok h0]); rw [wp_ok])
      show wp (sSeq [] _) _ _
      rw [wp_nil]
      exact ⟨some k, by rw [S]; simp [oI?]⟩
    · rintro e ⟨o3, rfl⟩
      show wp (sSeq _ _) _ _
      rw [wp_seq]
      ((conv => arg 1; simp -implicitDefEqProofs [r_evA0, r_evAe, r_evAp, r_eOp, r_eC, r_eV, r_eM, r_tOf, r_tAr, r_tAn, r_tOr, r_tNo, r_tYs, r_eIf, r_eAn, r_eOr, r_eNo, r_evV0, r_evVc, r_eMt, r_eMs, r_eMe, r_eCall, r_eCallI, r_sSeq0, r_sSeqc, r_gN, r_gTs0, r_gTsc, r_gT, r_sAsg, r_evO0, r_evOc, r_stA0, r_stAc, r_sPar, r_sEx, r_sAug, r_sPut, r_sRet, r_sIf, r_sPass, r_sCont, r_sRaise, r_eVs, r_itV, r_itR1, r_itR2, r_itE, muT, asB, truth, tyD_l, tyD_d, tyD_s, oLst, oTup]); rw [wp_ok])
      exact ⟨rfl, by unfold airV; simp [rangeL]⟩
theorem mean_ok {R : List Int} (h0 : R ≠ []) : m_mean_is_whole [intsT R] = .ret (.bool (decide (R.sum % R.length = 0))) false .none := by
  refine (fn_run rfl).trans ?_
  unfold s_mean_is_whole
  show fin (sSeq _ [some (intsT R, Tg.fz)]) = _
  simp -implicitDefEqProofs [r_evA0, r_evAe, r_evAp, r_eOp, r_eC, r_eV, r_eM, r_tOf, r_tAr, r_tAn, r_tOr, r_tNo, r_tYs, r_eIf, r_eAn, r_eOr, r_eNo, r_evV0, r_evVc, r_eMt, r_eMs, r_eMe, r_eCall, r_eCallI, r_sSeq0, r_sSeqc, r_gN, r_gTs0, r_gTsc, r_gT, r_sAsg, r_evO0, r_evOc, r_stA0, r_stAc, r_sPar, r_sEx, r_sAug, r_sPut, r_sRet, r_sIf, r_sPass, r_sCont, r_sRaise, r_eVs, r_itV, r_itR1, r_itR2, r_itE, muT, asB, truth, tyD_l, tyD_d, tyD_s, oLst, oTup, oLen_intsT, oSum_intsT, oMod_pos (lenp h0), fin]
/-- the greatest -/
def maxV : List Int → Int
  | [] => 0
  | a :: l => l.foldl max a
theorem oMax_intsT {R : List Int} (h0 : R ≠ []) : oMax [intsT R] = some (.int (maxV R), false) := by
  cases R with
  | nil => exact absurd rfl h0
  | cons a l =>
    show (match intsOf (intsT (a :: l)) with
    | some (n :: ns) => some (PyData.int (ns.foldl max n), false)
    | _ => none) = _
    have : intsOf (intsT (a :: l)) = some (a :: l) := by simp [intsOf, intsT, ints?]
    rw [this]; rfl
theorem greatest_ok {R : List Int} (h0 : R ≠ []) : m_greatest [intsT R] = .ret (.int (maxV R)) false .none := by
  refine (fn_run rfl).trans ?_
  unfold s_greatest
  show fin (sSeq _ [some (intsT R, Tg.fz)]) = _
  simp -implicitDefEqProofs [r_evA0, r_evAe, r_evAp, r_eOp, r_eC, r_eV, r_eM, r_tOf, r_tAr, r_tAn, r_tOr, r_tNo, r_tYs, r_eIf, r_eAn, r_eOr, r_eNo, r_evV0, r_evVc, r_eMt, r_eMs, r_eMe, r_eCall, r_eCallI, r_sSeq0, r_sSeqc, r_gN, r_gTs0, r_gTsc, r_gT, r_sAsg, r_evO0, r_evOc, r_stA0, r_stAc, r_sPar, r_sEx, r_sAug, r_sPut, r_sRet, r_sIf, r_sPass, r_sCont, r_sRaise, r_eVs, r_itV, r_itR1, r_itR2, r_itE, muT, asB, truth, tyD_l, tyD_d, tyD_s, oLst, oTup, oMax_intsT h0, fin]
end Py
end
section
set_option linter.all false
namespace Py
open PySem L2
/-! ### a fraction's terms -/
theorem mod_nat (a b : Nat) : ((a : Int) % (b : Int)) = ((a % b : Nat) : Int) := by omega
theorem gcd_step (a b : Nat) : Nat.gcd b (a % b) = Nat.gcd a b := by
  rw [Nat.gcd_comm b, ← Nat.gcd_rec, Nat.gcd_comm]
theorem average_ok {R : List Int} {s : Nat} (h0 : R ≠ []) (hl : R.length ≤ 1000) (hs : R.sum = s) (hs2 : s ≤ 100000) : m_average [intsT R] = .ret (.tuple [.int (s / Nat.gcd s R.length), .int (R.length / Nat.gcd s R.length)]) false .none := by
  have hp := lenp h0
  have key := fn_ret (n := 5) (k := 1) (body := sSeq s_average) (ds := [intsT R]) (Z := fun d o => o = false ∧ d = .tuple [.int (s / Nat.gcd s R.length), .int (R.length / Nat.gcd s R.length)]) rfl ?_
  · obtain ⟨d, o, h1, rfl, rfl⟩ := key
    exact h1
  · unfold s_average
    show wp (sSeq _ [some (intsT R, Tg.fz), none, none, none, none]) _ _
    (rw [wp_seq]; (conv => arg 1; simp -implicitDefEqProofs [r_evA0, r_evAe, r_evAp, r_eOp, r_eC, r_eV, r_eM, r_tOf, r_tAr, r_tAn, r_tOr, r_tNo, r_tYs, r_eIf, r_eAn, r_eOr, r_eNo, r_evV0, r_evVc, r_eMt, r_eMs, r_eMe, r_eCall, r_eCallI, r_sSeq0, r_sSeqc, r_gN, r_gTs0, r_gTsc, r_gT, r_sAsg, r_evO0, r_evOc, r_stA0, r_stAc, r_sPar, r_sEx, r_sAug, r_sPut, r_sRet, r_sIf, r_sPass, r_sCont, r_sRaise, r_eVs, r_itV, r_itR1, r_itR2, r_itE, muT, asB, truth, tyD_l, tyD_d, tyD_s, oLst, oTup, oSum_intsT, oLen_intsT, hs]); rw [wp_nx])
    (rw [wp_seq]; (conv => arg 1; simp -implicitDefEqProofs [r_evA0, r_evAe, r_evAp, r_eOp, r_eC, r_eV, r_eM, r_tOf, r_tAr, r_tAn, r_tOr, r_tNo, r_tYs, r_eIf, r_eAn, r_eOr, r_eNo, r_evV0, r_evVc, r_eMt, r_eMs, r_eMe, r_eCall, r_eCallI, r_sSeq0, r_sSeqc, r_gN, r_gTs0, r_gTsc, r_gT, r_sAsg, r_evO0, r_evOc, r_stA0, r_stAc, r_sPar, r_sEx, r_sAug, r_sPut, r_sRet, r_sIf, r_sPass, r_sCont, r_sRaise, r_eVs, r_itV, r_itR1, r_itR2, r_itE, muT, asB, truth, tyD_l, tyD_d, tyD_s, oLst, oTup]); rw [wp_nx])
    rw [wp_seq]
    refine wp_whl (fun m e => ∃ a b : Nat, e = [some (intsT R, Tg.fz), some (.int s, Tg.fz), some (.int R.length, Tg.fz), some (.int a, Tg.fz), some (.int b, Tg.fz)] ∧ Nat.gcd a b = Nat.gcd s R.length ∧ m = b) 1000000 _ R.length (by omega) ⟨s, R.length, rfl, rfl, rfl⟩ ?_
    rintro m e ⟨a, b, rfl, hg, hm⟩
    by_cases hb : b = 0
    · subst hb
      rw [Nat.gcd_zero_right] at hg
      subst hg
      ((conv => arg 1; simp -implicitDefEqProofs [r_evA0, r_evAe, r_evAp, r_eOp, r_eC, r_eV, r_eM, r_tOf, r_tAr, r_tAn, r_tOr, r_tNo, r_tYs, r_eIf, r_eAn, r_eOr, r_eNo, r_evV0, r_evVc, r_eMt, r_eMs, r_eMe, r_eCall, r_eCallI, r_sSeq0, r_sSeqc, r_gN, r_gTs0, r_gTsc, r_gT, r_sAsg, r_evO0, r_evOc, r_stA0, r_stAc, r_sPar, r_sEx, r_sAug, r_sPut, r_sRet, r_sIf, r_sPass, r_sCont, r_sRaise, r_eVs, r_itV, r_itR1, r_itR2, r_itE, muT, asB, truth, tyD_l, tyD_d, tyD_s, oLst, oTup]); rw [wp_ok])
      rw [whlK_f]
      show wp (sSeq _ _) _ _
      have hg0 : 0 < Nat.gcd s R.length := Nat.gcd_pos_of_pos_right _ (by omega)
      have hg1 : Nat.gcd s R.length ≤ R.length := Nat.gcd_le_right _ (by omega)
      rw [wp_seq]
      ((conv => arg 1; simp -implicitDefEqProofs [r_evA0, r_evAe, r_evAp, r_eOp, r_eC, r_eV, r_eM, r_tOf, r_tAr, r_tAn, r_tOr, r_tNo, r_tYs, r_eIf, r_eAn, r_eOr, r_eNo, r_evV0, r_evVc, r_eMt, r_eMs, r_eMe, r_eCall, r_eCallI, r_sSeq0, r_sSeqc, r_gN, r_gTs0, r_gTsc, r_gT, r_sAsg, r_evO0, r_evOc, r_stA0, r_stAc, r_sPar, r_sEx, r_sAug, r_sPut, r_sRet, r_sIf, r_sPass, r_sCont, r_sRaise, r_eVs, r_itV, r_itR1, r_itR2, r_itE, muT, asB, truth, tyD_l, tyD_d, tyD_s, oLst, oTup, fun i => oDiv_pos (i := i) (j := (Nat.gcd s R.length : Int)) (by omega) (by omega)]); rw [wp_ok])
      exact ⟨rfl, rfl⟩
    · have hb2 : (0 : Int) < b := by omega
      have hb3 : ((b : Int) != 0) = true := by simp; omega
      ((conv => arg 1; simp -implicitDefEqProofs [r_evA0, r_evAe, r_evAp, r_eOp, r_eC, r_eV, r_eM, r_tOf, r_tAr, r_tAn, r_tOr, r_tNo, r_tYs, r_eIf, r_eAn, r_eOr, r_eNo, r_evV0, r_evVc, r_eMt, r_eMs, r_eMe, r_eCall, r_eCallI, r_sSeq0, r_sSeqc, r_gN, r_gTs0, r_gTsc, r_gT, r_sAsg, r_evO0, r_evOc, r_stA0, r_stAc, r_sPar, r_sEx, r_sAug, r_sPut, r_sRet, r_sIf, r_sPass, r_sCont, r_sRaise, r_eVs, r_itV, r_itR1, r_itR2, r_itE, muT, asB, truth, tyD_l, tyD_d, tyD_s, oLst, oTup, hb3, hb]); rw [wp_ok])
      rw [whlK_t, wp_seq]
      ((conv => arg 1; simp -implicitDefEqProofs [r_evA0, r_evAe, r_evAp, r_eOp, r_eC, r_eV, r_eM, r_tOf, r_tAr, r_tAn, r_tOr, r_tNo, r_tYs, r_eIf, r_eAn, r_eOr, r_eNo, r_evV0, r_evVc, r_eMt, r_eMs, r_eMe, r_eCall, r_eCallI, r_sSeq0, r_sSeqc, r_gN, r_gTs0, r_gTsc, r_gT, r_sAsg, r_evO0, r_evOc, r_stA0, r_stAc, r_sPar, r_sEx, r_sAug, r_sPut, r_sRet, r_sIf, r_sPass, r_sCont, r_sRaise, r_eVs, r_itV, r_itR1, r_itR2, r_itE, muT, asB, truth, tyD_l, tyD_d, tyD_s, oLst, oTup, oMod_pos hb2]); rw [wp_ok])
      show wp (sSeq [] _) _ _
      rw [wp_nil]
      exact ⟨a % b, by rw [hm]; exact Nat.mod_lt _ (by omega), b, a % b, by rw [mod_nat], by rw [gcd_step]; exact hg, rfl⟩
theorem common_ok {x y : Nat} (hy : y < 1000000) : m__law_common [.int x, .int y] = .ret (.int (Nat.gcd x y)) false .none := by
  have key := fn_ret (n := 2) (k := 2) (body := sSeq s__law_common) (ds := [.int x, .int y]) (Z := fun d o => o = false ∧ d = .int (Nat.gcd x y)) rfl ?_
  · obtain ⟨d, o, h1, rfl, rfl⟩ := key
    exact h1
  · unfold s__law_common
    show wp (sSeq _ [some (.int x, Tg.fz), some (.int y, Tg.fz)]) _ _
    rw [wp_seq]
    refine wp_whl (fun m e => ∃ a b : Nat, e = [some (.int a, Tg.fz), some (.int b, Tg.fz)] ∧ Nat.gcd a b = Nat.gcd x y ∧ m = b) 1000000 _ y hy ⟨x, y, rfl, rfl, rfl⟩ ?_
    rintro m e ⟨a, b, rfl, hg, hm⟩
    by_cases hb : b = 0
    · subst hb
      rw [Nat.gcd_zero_right] at hg
      subst hg
      ((conv => arg 1; simp -implicitDefEqProofs [r_evA0, r_evAe, r_evAp, r_eOp, r_eC, r_eV, r_eM, r_tOf, r_tAr, r_tAn, r_tOr, r_tNo, r_tYs, r_eIf, r_eAn, r_eOr, r_eNo, r_evV0, r_evVc, r_eMt, r_eMs, r_eMe, r_eCall, r_eCallI, r_sSeq0, r_sSeqc, r_gN, r_gTs0, r_gTsc, r_gT, r_sAsg, r_evO0, r_evOc, r_stA0, r_stAc, r_sPar, r_sEx, r_sAug, r_sPut, r_sRet, r_sIf, r_sPass, r_sCont, r_sRaise, r_eVs, r_itV, r_itR1, r_itR2, r_itE, muT, asB, truth, tyD_l, tyD_d, tyD_s, oLst, oTup, oNe_int]); rw [wp_ok])
      rw [whlK_f]
      show wp (sSeq _ _) _ _
      rw [wp_seq]
      have hg0 : ¬ ((Nat.gcd x y : Int) < 0) := by omega
      ((conv => arg 1; simp -implicitDefEqProofs [r_evA0, r_evAe, r_evAp, r_eOp, r_eC, r_eV, r_eM, r_tOf, r_tAr, r_tAn, r_tOr, r_tNo, r_tYs, r_eIf, r_eAn, r_eOr, r_eNo, r_evV0, r_evVc, r_eMt, r_eMs, r_eMe, r_eCall, r_eCallI, r_sSeq0, r_sSeqc, r_gN, r_gTs0, r_gTsc, r_gT, r_sAsg, r_evO0, r_evOc, r_stA0, r_stAc, r_sPar, r_sEx, r_sAug, r_sPut, r_sRet, r_sIf, r_sPass, r_sCont, r_sRaise, r_eVs, r_itV, r_itR1, r_itR2, r_itE, muT, asB, truth, tyD_l, tyD_d, tyD_s, oLst, oTup, hg0]); rw [wp_ok])
      exact ⟨rfl, rfl⟩
    · have hb2 : (0 : Int) < b := by omega
      have hb3 : ((b : Int) != 0) = true := by simp; omega
      ((conv => arg 1; simp -implicitDefEqProofs [r_evA0, r_evAe, r_evAp, r_eOp, r_eC, r_eV, r_eM, r_tOf, r_tAr, r_tAn, r_tOr, r_tNo, r_tYs, r_eIf, r_eAn, r_eOr, r_eNo, r_evV0, r_evVc, r_eMt, r_eMs, r_eMe, r_eCall, r_eCallI, r_sSeq0, r_sSeqc, r_gN, r_gTs0, r_gTsc, r_gT, r_sAsg, r_evO0, r_evOc, r_stA0, r_stAc, r_sPar, r_sEx, r_sAug, r_sPut, r_sRet, r_sIf, r_sPass, r_sCont, r_sRaise, r_eVs, r_itV, r_itR1, r_itR2, r_itE, muT, asB, truth, tyD_l, tyD_d, tyD_s, oLst, oTup, oNe_int, hb3, hb]); rw [wp_ok])
      rw [whlK_t, wp_seq]
      ((conv => arg 1; simp -implicitDefEqProofs [r_evA0, r_evAe, r_evAp, r_eOp, r_eC, r_eV, r_eM, r_tOf, r_tAr, r_tAn, r_tOr, r_tNo, r_tYs, r_eIf, r_eAn, r_eOr, r_eNo, r_evV0, r_evVc, r_eMt, r_eMs, r_eMe, r_eCall, r_eCallI, r_sSeq0, r_sSeqc, r_gN, r_gTs0, r_gTsc, r_gT, r_sAsg, r_evO0, r_evOc, r_stA0, r_stAc, r_sPar, r_sEx, r_sAug, r_sPut, r_sRet, r_sIf, r_sPass, r_sCont, r_sRaise, r_eVs, r_itV, r_itR1, r_itR2, r_itE, muT, asB, truth, tyD_l, tyD_d, tyD_s, oLst, oTup, oMod_pos hb2]); rw [wp_ok])
      show wp (sSeq [] _) _ _
      rw [wp_nil]
      exact ⟨a % b, by rw [hm]; exact Nat.mod_lt _ (by omega), b, a % b, by rw [mod_nat], by rw [gcd_step]; exact hg, rfl⟩
theorem fraction_ok {x y : Nat} (hy0 : 0 < y) (hy : y < 1000000) : m__law_fraction [.int x, .int y] = .ret (.tuple [.int (x / Nat.gcd x y), .int (y / Nat.gcd x y)]) false .none := by
  have hg0 : 0 < Nat.gcd x y := Nat.gcd_pos_of_pos_right _ hy0
  have hg1 : Nat.gcd x y ≤ y := Nat.gcd_le_right _ hy0
  refine (fn_run rfl).trans ?_
  unfold s__law_fraction
  show fin (sSeq _ [some (.int x, Tg.fz), some (.int y, Tg.fz), none, none]) = _
  have h1 : (0 : Int) < y := by omega
  simp -implicitDefEqProofs [r_evA0, r_evAe, r_evAp, r_eOp, r_eC, r_eV, r_eM, r_tOf, r_tAr, r_tAn, r_tOr, r_tNo, r_tYs, r_eIf, r_eAn, r_eOr, r_eNo, r_evV0, r_evVc, r_eMt, r_eMs, r_eMe, r_eCall, r_eCallI, r_sSeq0, r_sSeqc, r_gN, r_gTs0, r_gTsc, r_gT, r_sAsg, r_evO0, r_evOc, r_stA0, r_stAc, r_sPar, r_sEx, r_sAug, r_sPut, r_sRet, r_sIf, r_sPass, r_sCont, r_sRaise, r_eVs, r_itV, r_itR1, r_itR2, r_itE, muT, asB, truth, tyD_l, tyD_d, tyD_s, oLst, oTup, common_ok hy, h1, hy0, oMul_int (cMul_l (i := 1) (by decide) (by decide)), fun i => oDiv_pos (i := i) (j := (Nat.gcd x y : Int)) (by omega) (by omega), fin]
end Py
end
section
set_option linter.all false
namespace Py
open PySem L2
theorem oIsa_tup {ds : List PyData} (h : (PyData.tuple ds).canLay0 = true) : oIsa "tuple" [.tuple ds] = some (.bool true, false) := by
  show (if (PyData.tuple ds).canLay0 = true then (isaD "tuple" (.tuple ds)).map fun b => (PyData.bool b, false) else none) = _
  rw [if_pos h]; rfl
theorem cLe_int (i j : Int) : cLe (.int i) (.int j) = some (decide (i ≤ j)) := rfl
theorem is_row_ok {R : List Int} (h0 : R ≠ []) (hl : R.length ≤ 30) (hh : ∀ h, h ∈ R → 0 ≤ h ∧ h ≤ 35) : m_is_row [intsT R] = .ret (.bool true) false .none := by
  have hp := lenp h0
  have h1 : (1 : Int) ≤ R.length := by omega
  have h2 : (R.length : Int) ≤ 30 := by omega
  have hg : gOut true (xAnd (xIsa "int" (xN 0)) (xAnd (xNot (xIsa "bool" (xN 0))) (xCh cLe cLe (xC (.int 0)) (xN 0) (xC (.int 35))))) [intsT R] = some true := by
    rw [gOut_T (p := fun i => decide (0 ≤ i) && decide (i ≤ 35))]
    · rw [List.all_eq_true.mpr]
      intro i hi
      have := hh i hi
      simp [this]
    · intro i hi
      have := hh i hi
      simp only [xAnd, xIsa, xN, xNot, xCh, xC, List.getElem?_cons_zero, isaD, PyData.isInt, PyData.isBool, Option.map_some, xB, cLe_int, Bool.not_false]
      rw [decide_eq_true this.1, decide_eq_true this.2]
      rfl
  have ht : oIsa "tuple" [intsT R] = some (.bool true, false) := oIsa_tup (fl_intsT (n := 0) (L := R)).1
  have hc : ∀ l, eCh oLe oLe (eC (.int 1)) (eOp oLen [.pk 0]) (eC (.int 30)) (some (intsT R, Tg.fz) :: l) = .ok (.bool true, false, some (intsT R, Tg.fz) :: l) := by
    intro l
    simp -implicitDefEqProofs [r_evA0, r_evAe, r_evAp, r_eOp, r_eC, r_eV, r_eM, r_tOf, r_tAr, r_tAn, r_tOr, r_tNo, r_tYs, r_eIf, r_eAn, r_eOr, r_eNo, r_evV0, r_evVc, r_eMt, r_eMs, r_eMe, r_eCall, r_eCallI, r_sSeq0, r_sSeqc, r_gN, r_gTs0, r_gTsc, r_gT, r_sAsg, r_evO0, r_evOc, r_stA0, r_stAc, r_sPar, r_sEx, r_sAug, r_sPut, r_sRet, r_sIf, r_sPass, r_sCont, r_sRaise, r_eVs, r_itV, r_itR1, r_itR2, r_itE, muT, asB, truth, tyD_l, tyD_d, tyD_s, oLst, oTup, eCh, oLen_intsT, h1, h2]
  refine (fn_run rfl).trans ?_
  unfold s_is_row
  show fin (sSeq _ [some (intsT R, Tg.fz), none]) = _
  simp -implicitDefEqProofs [r_evA0, r_evAe, r_evAp, r_eOp, r_eC, r_eV, r_eM, r_tOf, r_tAr, r_tAn, r_tOr, r_tNo, r_tYs, r_eIf, r_eAn, r_eOr, r_eNo, r_evV0, r_evVc, r_eMt, r_eMs, r_eMe, r_eCall, r_eCallI, r_sSeq0, r_sSeqc, r_gN, r_gTs0, r_gTsc, r_gT, r_sAsg, r_evO0, r_evOc, r_stA0, r_stAc, r_sPar, r_sEx, r_sAug, r_sPut, r_sRet, r_sIf, r_sPass, r_sCont, r_sRaise, r_eVs, r_itV, r_itR1, r_itR2, r_itE, muT, asB, truth, tyD_l, tyD_d, tyD_s, oLst, oTup, ht, hc, r_eGen, hg, fin]
/-! the law's own clash -/
theorem mod_sub_zero {a b n : Int} : (a - b) % n = 0 ↔ a % n = b % n := Int.emod_eq_emod_iff_emod_sub_eq_zero.symm
theorem clash_cond {R : List Int} {i j : Nat} (hi : i < R.length) (hj : j < R.length) : ((((i : Int) + R.getD i 0 - j - R.getD j 0) % R.length = 0) ↔ (landV R)[i]? = (landV R)[j]?) := by
  rw [show (i : Int) + R.getD i 0 - j - R.getD j 0 = ((i : Int) + R.getD i 0) - ((j : Int) + R.getD j 0) by omega, mod_sub_zero]
  rw [show (landV R)[i]? = some (((i : Int) + R.getD i 0) % R.length) from landV'_get hi, show (landV R)[j]? = some (((j : Int) + R.getD j 0) % R.length) from landV'_get hj]
  simp
theorem lawclash_ok {R : List Int} (h0 : R ≠ []) (hl : R.length ≤ 1000000) : ∃ d, m__law_clash [intsT R] = .ret d false .none ∧ clashIs (landV R) d := by
  have hp := lenp h0
  have key := fn_ret (n := 3) (k := 1) (body := sSeq s__law_clash) (ds := [intsT R]) (Z := fun d o => o = false ∧ clashIs (landV R) d) rfl ?_
  · obtain ⟨d, o, h1, rfl, h3⟩ := key
    exact ⟨d, h1, h3⟩
  · unfold s__law_clash
    show wp (sSeq _ [some (intsT R, Tg.fz), none, none]) _ _
    have hlim : lim62 (R.length : Int) = true := by unfold lim62; simp; omega
    rw [wp_seq]
    refine wp_for (ds := rangeL 0 R.length) (by (simp -implicitDefEqProofs [r_evA0, r_evAe, r_evAp, r_eOp, r_eC, r_eV, r_eM, r_tOf, r_tAr, r_tAn, r_tOr, r_tNo, r_tYs, r_eIf, r_eAn, r_eOr, r_eNo, r_evV0, r_evVc, r_eMt, r_eMs, r_eMe, r_eCall, r_eCallI, r_sSeq0, r_sSeqc, r_gN, r_gTs0, r_gTsc, r_gT, r_sAsg, r_evO0, r_evOc, r_stA0, r_stAc, r_sPar, r_sEx, r_sAug, r_sPut, r_sRet, r_sIf, r_sPass, r_sCont, r_sRaise, r_eVs, r_itV, r_itR1, r_itR2, r_itE, muT, asB, truth, tyD_l, tyD_d, tyD_s, oLst, oTup, oLen_intsT, hlim] <;> first | rfl | exact ⟨rfl, rfl⟩)) (fun k e => (∀ a b, a < b → b < k → (landV R)[a]? ≠ (landV R)[b]?) ∧ ∃ (o1 o2 : Option Int), e = [some (intsT R, Tg.fz), oI? o1, oI? o2]) ⟨fun a b _ h => absurd h (Nat.not_lt_zero _), none, none, rfl⟩ ?_ ?_
    · rintro k d e hd ⟨hdist, o1, o2, rfl⟩
      obtain ⟨hk, rfl⟩ := range_get hd
      refine ⟨[some (intsT R, Tg.fz), some (.int (0 + (k : Int)), Tg.fz), oI? o2], by simp -implicitDefEqProofs [r_evA0, r_evAe, r_evAp, r_eOp, r_eC, r_eV, r_eM, r_tOf, r_tAr, r_tAn, r_tOr, r_tNo, r_tYs, r_eIf, r_eAn, r_eOr, r_eNo, r_evV0, r_evVc, r_eMt, r_eMs, r_eMe, r_eCall, r_eCallI, r_sSeq0, r_sSeqc, r_gN, r_gTs0, r_gTsc, r_gT, r_sAsg, r_evO0, r_evOc, r_stA0, r_stAc, r_sPar, r_sEx, r_sAug, r_sPut, r_sRet, r_sIf, r_sPass, r_sCont, r_sRaise, r_eVs, r_itV, r_itR1, r_itR2, r_itE, muT, asB, truth, tyD_l, tyD_d, tyD_s, oLst, oTup], ?_⟩
      rw [Int.zero_add, wp_seq]
      have hlim2 : lim62 (k : Int) = true := by unfold lim62; simp; omega
      refine wp_for (ds := rangeL 0 k) (by (simp -implicitDefEqProofs [r_evA0, r_evAe, r_evAp, r_eOp, r_eC, r_eV, r_eM, r_tOf, r_tAr, r_tAn, r_tOr, r_tNo, r_tYs, r_eIf, r_eAn, r_eOr, r_eNo, r_evV0, r_evVc, r_eMt, r_eMs, r_eMe, r_eCall, r_eCallI, r_sSeq0, r_sSeqc, r_gN, r_gTs0, r_gTsc, r_gT, r_sAsg, r_evO0, r_evOc, r_stA0, r_stAc, r_sPar, r_sEx, r_sAug, r_sPut, r_sRet, r_sIf, r_sPass, r_sCont, r_sRaise, r_eVs, r_itV, r_itR1, r_itR2, r_itE, muT, asB, truth, tyD_l, tyD_d, tyD_s, oLst, oTup, hlim2] <;> first | rfl | exact ⟨rfl, rfl⟩)) (fun i e => (∀ a, a < i → (landV R)[a]? ≠ (landV R)[k]?) ∧ ∃ (o2 : Option Int), e = [some (intsT R, Tg.fz), some (.int k, Tg.fz), oI? o2]) ⟨fun a h => absurd h (Nat.not_lt_zero _), o2, rfl⟩ ?_ ?_
      · rintro i d e hd ⟨hin, o2, rfl⟩
        obtain ⟨hi, rfl⟩ := range_get hd
        refine ⟨[some (intsT R, Tg.fz), some (.int k, Tg.fz), some (.int (i : Int), Tg.fz)], by simp -implicitDefEqProofs [r_evA0, r_evAe, r_evAp, r_eOp, r_eC, r_eV, r_eM, r_tOf, r_tAr, r_tAn, r_tOr, r_tNo, r_tYs, r_eIf, r_eAn, r_eOr, r_eNo, r_evV0, r_evVc, r_eMt, r_eMs, r_eMe, r_eCall, r_eCallI, r_sSeq0, r_sSeqc, r_gN, r_gTs0, r_gTsc, r_gT, r_sAsg, r_evO0, r_evOc, r_stA0, r_stAc, r_sPar, r_sEx, r_sAug, r_sPut, r_sRet, r_sIf, r_sPass, r_sCont, r_sRaise, r_eVs, r_itV, r_itR1, r_itR2, r_itE, muT, asB, truth, tyD_l, tyD_d, tyD_s, oLst, oTup], ?_⟩
        have e1 : oIx [intsT R, .int (i : Int)] = some (.int (R.getD i 0), false) := oIx_intsT' (by omega) (by omega)
        have e2 : oIx [intsT R, .int (k : Int)] = some (.int (R.getD k 0), false) := oIx_intsT' (by omega) (by omega)
        have hc := clash_cond (R := R) (i := i) (j := k) (by omega) hk
        generalize hx : (((i : Int) + R.getD i 0 - k - R.getD k 0) % R.length) = x at hc
        simp only [List.getD_eq_getElem?_getD] at hx
        rw [wp_seq]
        by_cases hz : x = 0
        · ((conv => arg 1; simp -implicitDefEqProofs [r_evA0, r_evAe, r_evAp, r_eOp, r_eC, r_eV, r_eM, r_tOf, r_tAr, r_tAn, r_tOr, r_tNo, r_tYs, r_eIf, r_eAn, r_eOr, r_eNo, r_evV0, r_evVc, r_eMt, r_eMs, r_eMe, r_eCall, r_eCallI, r_sSeq0, r_sSeqc, r_gN, r_gTs0, r_gTsc, r_gT, r_sAsg, r_evO0, r_evOc, r_stA0, r_stAc, r_sPar, r_sEx, r_sAug, r_sPut, r_sRet, r_sIf, r_sPass, r_sCont, r_sRaise, r_eVs, r_itV, r_itR1, r_itR2, r_itE, muT, asB, truth, tyD_l, tyD_d, tyD_s, oLst, oTup, e1, e2, oLen_intsT, oMod_pos hp, hx, hz]); rw [wp_ok])
          exact ⟨rfl, .inl ⟨i, k, ⟨hi, by rw [landV_len]; exact hk, hc.mp hz, hdist⟩, rfl⟩⟩
        · ((conv => arg 1; simp -implicitDefEqProofs [r_evA0, r_evAe, r_evAp, r_eOp, r_eC, r_eV, r_eM, r_tOf, r_tAr, r_tAn, r_tOr, r_tNo, r_tYs, r_eIf, r_eAn, r_eOr, r_eNo, r_evV0, r_evVc, r_eMt, r_eMs, r_eMe, r_eCall, r_eCallI, r_sSeq0, r_sSeqc, r_gN, r_gTs0, r_gTsc, r_gT, r_sAsg, r_evO0, r_evOc, r_stA0, r_stAc, r_sPar, r_sEx, r_sAug, r_sPut, r_sRet, r_sIf, r_sPass, r_sCont, r_sRaise, r_eVs, r_itV, r_itR1, r_itR2, r_itE, muT, asB, truth, tyD_l, tyD_d, tyD_s, oLst, oTup, e1, e2, oLen_intsT, oMod_pos hp, hx, hz]); rw [wp_ok])
          show wp (sSeq [] _) _ _
          rw [wp_nil]
          refine ⟨fun a ha => ?_, some i, rfl⟩
          by_cases hai : a = i
          · subst hai; exact fun z => hz (hc.mpr z)
          · exact hin a (by omega)
      · rintro e ⟨hin, o2, rfl⟩
        show wp (sSeq [] _) _ _
        rw [wp_nil]
        refine ⟨fun a b hab hb => ?_, some k, o2, rfl⟩
        by_cases hbk : b = k
        · subst hbk
          exact hin a (by simpa [rangeL] using hab)
        · exact hdist a b hab (by omega)
    · rintro e ⟨hdist, o1, o2, rfl⟩
      show wp (sSeq _ _) _ _
      rw [wp_seq]
      ((conv => arg 1; simp -implicitDefEqProofs [r_evA0, r_evAe, r_evAp, r_eOp, r_eC, r_eV, r_eM, r_tOf, r_tAr, r_tAn, r_tOr, r_tNo, r_tYs, r_eIf, r_eAn, r_eOr, r_eNo, r_evV0, r_evVc, r_eMt, r_eMs, r_eMe, r_eCall, r_eCallI, r_sSeq0, r_sSeqc, r_gN, r_gTs0, r_gTsc, r_gT, r_sAsg, r_evO0, r_evOc, r_stA0, r_stAc, r_sPar, r_sEx, r_sAug, r_sPut, r_sRet, r_sIf, r_sPass, r_sCont, r_sRaise, r_eVs, r_itV, r_itR1, r_itR2, r_itE, muT, asB, truth, tyD_l, tyD_d, tyD_s, oLst, oTup]); rw [wp_ok])
      exact ⟨rfl, .inr ⟨fun a b h1 h2 => hdist a b h1 (by rw [landV_len] at h2; simpa [rangeL] using h2), rfl⟩⟩
/-- one answer -/
theorem clashIs_one {P : List Int} {d d' : PyData} (h : clashIs P d) (h' : clashIs P d') : d = d' := by
  rcases h with ⟨i, j, ⟨a1, a2, a3, a4⟩, rfl⟩ | ⟨a, rfl⟩ <;> rcases h' with ⟨i', j', ⟨b1, b2, b3, b4⟩, rfl⟩ | ⟨b, rfl⟩
  · have ej : j = j' := by
      rcases Nat.lt_trichotomy j j' with z | z | z
      · exact absurd a3 (b4 i j a1 z)
      · exact z
      · exact absurd b3 (a4 i' j' b1 z)
    subst ej
    have ei : i = i' := by
      rcases Nat.lt_trichotomy i i' with z | z | z
      · exact absurd (a3.trans b3.symm) (b4 i i' z b1)
      · exact z
      · exact absurd (b3.trans a3.symm) (a4 i' i z a1)
    rw [ei]
  · exact absurd a3 (b i j a1 a2)
  · exact absurd b3 (a i' j' b1 b2)
  · rfl
end Py
end
section
set_option linter.all false
namespace Py
open PySem L2
/-! told -/
theorem told0 {R : List Int} (h0 : R ≠ []) (hl : R.length ≤ 1000000) (hc : m_clash [intsT R] = .ret .none false .none) : m__law_told [intsT R, .int 0] = .ret (.int (R.sum / R.length)) false .none := by
  refine (fn_run rfl).trans ?_
  unfold s__law_told
  show fin (sSeq _ [some (intsT R, Tg.fz), some (.int 0, Tg.fz), none]) = _
  rw [r_sSeqc, sTry_ok (f := .rt (.int (R.sum / R.length)) false [some (intsT R, Tg.fz), some (.int 0, Tg.fz), none]) (by simp -implicitDefEqProofs [r_evA0, r_evAe, r_evAp, r_eOp, r_eC, r_eV, r_eM, r_tOf, r_tAr, r_tAn, r_tOr, r_tNo, r_tYs, r_eIf, r_eAn, r_eOr, r_eNo, r_evV0, r_evVc, r_eMt, r_eMs, r_eMe, r_eCall, r_eCallI, r_sSeq0, r_sSeqc, r_gN, r_gTs0, r_gTsc, r_gT, r_sAsg, r_evO0, r_evOc, r_stA0, r_stAc, r_sPar, r_sEx, r_sAug, r_sPut, r_sRet, r_sIf, r_sPass, r_sCont, r_sRaise, r_eVs, r_itV, r_itR1, r_itR2, r_itE, muT, asB, truth, tyD_l, tyD_d, tyD_s, oLst, oTup, balls_none h0 hl hc])]
  rfl
theorem told1 {R : List Int} (hc : m_clash [intsT R] = .ret .none false .none) : m__law_told [intsT R, .int 1] = .ret .none false .none := by
  refine (fn_run rfl).trans ?_
  unfold s__law_told
  show fin (sSeq _ [some (intsT R, Tg.fz), some (.int 1, Tg.fz), none]) = _
  rw [r_sSeqc, sTry_ok (f := .rt .none false [some (intsT R, Tg.fz), some (.int 1, Tg.fz), none]) (by simp -implicitDefEqProofs [r_evA0, r_evAe, r_evAp, r_eOp, r_eC, r_eV, r_eM, r_tOf, r_tAr, r_tAn, r_tOr, r_tNo, r_tYs, r_eIf, r_eAn, r_eOr, r_eNo, r_evV0, r_evVc, r_eMt, r_eMs, r_eMe, r_eCall, r_eCallI, r_sSeq0, r_sSeqc, r_gN, r_gTs0, r_gTsc, r_gT, r_sAsg, r_evO0, r_evOc, r_stA0, r_stAc, r_sPar, r_sEx, r_sAug, r_sPut, r_sRet, r_sIf, r_sPass, r_sCont, r_sRaise, r_eVs, r_itV, r_itR1, r_itR2, r_itE, muT, asB, truth, tyD_l, tyD_d, tyD_s, oLst, oTup, check_none hc])]
  rfl
theorem told2 {R : List Int} (h0 : R ≠ []) (hl : R.length ≤ 1000000) (hc : m_clash [intsT R] = .ret .none false .none) : m__law_told [intsT R, .int 2] = .ret (intsL (movV (landV R) R.length R.length)) true .none := by
  refine (fn_run rfl).trans ?_
  unfold s__law_told
  show fin (sSeq _ [some (intsT R, Tg.fz), some (.int 2, Tg.fz), none]) = _
  rw [r_sSeqc, sTry_ok (f := .rt (intsL (movV (landV R) R.length R.length)) true [some (intsT R, Tg.fz), some (.int 2, Tg.fz), none]) (by simp -implicitDefEqProofs [r_evA0, r_evAe, r_evAp, r_eOp, r_eC, r_eV, r_eM, r_tOf, r_tAr, r_tAn, r_tOr, r_tNo, r_tYs, r_eIf, r_eAn, r_eOr, r_eNo, r_evV0, r_evVc, r_eMt, r_eMs, r_eMe, r_eCall, r_eCallI, r_sSeq0, r_sSeqc, r_gN, r_gTs0, r_gTsc, r_gT, r_sAsg, r_evO0, r_evOc, r_stA0, r_stAc, r_sPar, r_sEx, r_sAug, r_sPut, r_sRet, r_sIf, r_sPass, r_sCont, r_sRaise, r_eVs, r_itV, r_itR1, r_itR2, r_itE, muT, asB, truth, tyD_l, tyD_d, tyD_s, oLst, oTup, moves_none h0 hl hc])]
  rfl
theorem told_some {R : List Int} {i j : Nat} (hj : j < 100) (hc : m_clash [intsT R] = .ret (.tuple [.int i, .int j]) false .none) {k : Nat} (hk : k < 3) : m__law_told [intsT R, .int k] = .ret (.list [.str "dropped", .int j, .bool true]) true .none := by
  refine (fn_run rfl).trans ?_
  unfold s__law_told
  show fin (sSeq _ [some (intsT R, Tg.fz), some (.int k, Tg.fz), none]) = _
  rw [r_sSeqc, sTry_ex (e' := [some (intsT R, Tg.fz), some (.int k, Tg.fz), none]) (d := .int j) (v := .list [.str "dropped", .int j, .bool true]) (o := true) ?_ (by decide) rfl (by simp) rfl]
  · rfl
  · match k, hk with
    | 0, _ => simp -implicitDefEqProofs [r_evA0, r_evAe, r_evAp, r_eOp, r_eC, r_eV, r_eM, r_tOf, r_tAr, r_tAn, r_tOr, r_tNo, r_tYs, r_eIf, r_eAn, r_eOr, r_eNo, r_evV0, r_evVc, r_eMt, r_eMs, r_eMe, r_eCall, r_eCallI, r_sSeq0, r_sSeqc, r_gN, r_gTs0, r_gTsc, r_gT, r_sAsg, r_evO0, r_evOc, r_stA0, r_stAc, r_sPar, r_sEx, r_sAug, r_sPut, r_sRet, r_sIf, r_sPass, r_sCont, r_sRaise, r_eVs, r_itV, r_itR1, r_itR2, r_itE, muT, asB, truth, tyD_l, tyD_d, tyD_s, oLst, oTup, balls_some hj hc]
    | 1, _ => simp -implicitDefEqProofs [r_evA0, r_evAe, r_evAp, r_eOp, r_eC, r_eV, r_eM, r_tOf, r_tAr, r_tAn, r_tOr, r_tNo, r_tYs, r_eIf, r_eAn, r_eOr, r_eNo, r_evV0, r_evVc, r_eMt, r_eMs, r_eMe, r_eCall, r_eCallI, r_sSeq0, r_sSeqc, r_gN, r_gTs0, r_gTsc, r_gT, r_sAsg, r_evO0, r_evOc, r_stA0, r_stAc, r_sPar, r_sEx, r_sAug, r_sPut, r_sRet, r_sIf, r_sPass, r_sCont, r_sRaise, r_eVs, r_itV, r_itR1, r_itR2, r_itE, muT, asB, truth, tyD_l, tyD_d, tyD_s, oLst, oTup, check_some hj hc]
    | 2, _ => simp -implicitDefEqProofs [r_evA0, r_evAe, r_evAp, r_eOp, r_eC, r_eV, r_eM, r_tOf, r_tAr, r_tAn, r_tOr, r_tNo, r_tYs, r_eIf, r_eAn, r_eOr, r_eNo, r_evV0, r_evVc, r_eMt, r_eMs, r_eMe, r_eCall, r_eCallI, r_sSeq0, r_sSeqc, r_gN, r_gTs0, r_gTsc, r_gT, r_sAsg, r_evO0, r_evOc, r_stA0, r_stAc, r_sPar, r_sEx, r_sAug, r_sPut, r_sRet, r_sIf, r_sPass, r_sCont, r_sRaise, r_eVs, r_itV, r_itR1, r_itR2, r_itE, muT, asB, truth, tyD_l, tyD_d, tyD_s, oLst, oTup, moves_some hj hc]
/-! heights put right -/
def tkD (T : List Int) : List (PyData × PyData) := T.map fun p => (.int p, .bool true)
theorem tkD_int {T : List Int} : ∀ p ∈ tkD T, ∃ i : Int, p.1 = .int i := fun p hp => by
  obtain ⟨i, _, rfl⟩ := List.mem_map.mp hp
  exact ⟨i, rfl⟩
theorem tkD_get {T : List Int} {x : Int} : dG (tkD T) (.int x) = if x ∈ T then some (.bool true) else none := by
  induction T with
  | nil => rfl
  | cons a T ih =>
    show dG ((.int a, .bool true) :: tkD T) (.int x) = _
    rw [dG_cons, kE_int, ih]
    by_cases h : a = x
    · subst h; simp
    · rw [decide_eq_false h]
      have : x ∈ a :: T ↔ x ∈ T := by
        rw [List.mem_cons]
        exact ⟨fun z => z.resolve_left fun q => h q.symm, .inr⟩
      simp [this]
theorem tkD_in {T : List Int} {x : Int} : oIn [.int x, .dict (tkD T)] = some (.bool (decide (x ∈ T)), false) := by
  rw [oIn_dict tkD_int, tkD_get]
  by_cases h : x ∈ T
  · rw [if_pos h, decide_eq_true h]; rfl
  · rw [if_neg h, decide_eq_false h]; rfl
theorem put_right_ok {R : List Int} (h0 : R ≠ []) (hl : R.length ≤ 1000) : m_put_right [intsT R] = .ret (intsT (madeV R R.length)) false .none := by
  have hp := lenp h0
  have key := fn_ret (n := 5) (k := 1) (body := sSeq s_put_right) (ds := [intsT R]) (Z := fun d o => o = false ∧ d = intsT (madeV R R.length)) rfl ?_
  · obtain ⟨d, o, h1, rfl, rfl⟩ := key
    exact h1
  · unfold s_put_right
    show wp (sSeq _ [some (intsT R, Tg.fz), none, none, none, none]) _ _
    (rw [wp_seq]; (conv => arg 1; simp -implicitDefEqProofs [r_evA0, r_evAe, r_evAp, r_eOp, r_eC, r_eV, r_eM, r_tOf, r_tAr, r_tAn, r_tOr, r_tNo, r_tYs, r_eIf, r_eAn, r_eOr, r_eNo, r_evV0, r_evVc, r_eMt, r_eMs, r_eMe, r_eCall, r_eCallI, r_sSeq0, r_sSeqc, r_gN, r_gTs0, r_gTsc, r_gT, r_sAsg, r_evO0, r_evOc, r_stA0, r_stAc, r_sPar, r_sEx, r_sAug, r_sPut, r_sRet, r_sIf, r_sPass, r_sCont, r_sRaise, r_eVs, r_itV, r_itR1, r_itR2, r_itE, muT, asB, truth, tyD_l, tyD_d, tyD_s, oLst, oTup, eNewK]); rw [wp_nx])
    (rw [wp_seq]; (conv => arg 1; simp -implicitDefEqProofs [r_evA0, r_evAe, r_evAp, r_eOp, r_eC, r_eV, r_eM, r_tOf, r_tAr, r_tAn, r_tOr, r_tNo, r_tYs, r_eIf, r_eAn, r_eOr, r_eNo, r_evV0, r_evVc, r_eMt, r_eMs, r_eMe, r_eCall, r_eCallI, r_sSeq0, r_sSeqc, r_gN, r_gTs0, r_gTsc, r_gT, r_sAsg, r_evO0, r_evOc, r_stA0, r_stAc, r_sPar, r_sEx, r_sAug, r_sPut, r_sRet, r_sIf, r_sPass, r_sCont, r_sRaise, r_eVs, r_itV, r_itR1, r_itR2, r_itE, muT, asB, truth, tyD_l, tyD_d, tyD_s, oLst, oTup]); rw [wp_nx])
    rw [wp_seq]
    have ei : ∀ s1 s2 : Slot, itE (eV 0) [some (intsT R, Tg.fz), s1, s2, none, none] = .ok (enumFrom 0 (R.map .int), [some (intsT R, Tg.fz), s1, s2, none, none]) := fun s1 s2 => by simp -implicitDefEqProofs [r_evA0, r_evAe, r_evAp, r_eOp, r_eC, r_eV, r_eM, r_tOf, r_tAr, r_tAn, r_tOr, r_tNo, r_tYs, r_eIf, r_eAn, r_eOr, r_eNo, r_evV0, r_evVc, r_eMt, r_eMs, r_eMe, r_eCall, r_eCallI, r_sSeq0, r_sSeqc, r_gN, r_gTs0, r_gTsc, r_gT, r_sAsg, r_evO0, r_evOc, r_stA0, r_stAc, r_sPar, r_sEx, r_sAug, r_sPut, r_sRet, r_sIf, r_sPass, r_sCont, r_sRaise, r_eVs, r_itV, r_itR1, r_itR2, r_itE, muT, asB, truth, tyD_l, tyD_d, tyD_s, oLst, oTup, intsT]
    refine wp_for (ds := enumFrom 0 (R.map .int)) (ei _ _) (fun k e => k ≤ R.length ∧ ∃ (o3 o4 : Option Int), e = [some (intsT R, Tg.fz), some (.dict (tkD (landN R.length (madeV R k))), Tg.own), some (intsL (madeV R k), Tg.own), oI? o3, oI? o4]) ⟨Nat.zero_le _, none, none, rfl⟩ ?_ ?_
    · rintro k d e hd ⟨_, o3, o4, rfl⟩
      obtain ⟨h, hk0, rfl⟩ := enum_ints hd
      have hk := (List.getElem?_eq_some_iff.mp hk0).1
      have hml := madeV_len (R := R) (k := k) (by omega)
      have hfree := madeV_free hk0
      have hland := madeV_land hk0
      have hmade := madeV_succ hk0
      rw [hml] at hmade
      generalize hF : upN (takP R.length (landN R.length (madeV R k)) k) R.length h = F at hfree hland hmade
      rw [hland, hmade]
      generalize hT : landN R.length (madeV R k) = T at hF hfree hland
      have hTl : T.length = k := by rw [← hT, landN_len, hml]
      generalize madeV R k = M at hml
      refine ⟨[some (intsT R, Tg.fz), some (.dict (tkD T), Tg.own), some (intsL M, Tg.own), some (.int k, Tg.fz), some (.int h, Tg.fz)], by simp -implicitDefEqProofs [r_evA0, r_evAe, r_evAp, r_eOp, r_eC, r_eV, r_eM, r_tOf, r_tAr, r_tAn, r_tOr, r_tNo, r_tYs, r_eIf, r_eAn, r_eOr, r_eNo, r_evV0, r_evVc, r_eMt, r_eMs, r_eMe, r_eCall, r_eCallI, r_sSeq0, r_sSeqc, r_gN, r_gTs0, r_gTsc, r_gT, r_sAsg, r_evO0, r_evOc, r_stA0, r_stAc, r_sPar, r_sEx, r_sAug, r_sPut, r_sRet, r_sIf, r_sPass, r_sCont, r_sRaise, r_eVs, r_itV, r_itR1, r_itR2, r_itE, muT, asB, truth, tyD_l, tyD_d, tyD_s, oLst, oTup], ?_⟩
      rw [wp_seq]
      refine wp_whl (fun m e => ∃ h' : Int, e = [some (intsT R, Tg.fz), some (.dict (tkD T), Tg.own), some (intsL M, Tg.own), some (.int k, Tg.fz), some (.int h', Tg.fz)] ∧ upN (takP R.length T k) m h' = F) 1000000 _ R.length (by omega) ⟨h, rfl, hF⟩ ?_
      rintro m e ⟨h', rfl, hu⟩
      cases hb : takP R.length T k h' with
      | true =>
        have hb2 : (decide (((k : Int) + h') % R.length ∈ T)) = true := hb
        ((conv => arg 1; simp -implicitDefEqProofs [r_evA0, r_evAe, r_evAp, r_eOp, r_eC, r_eV, r_eM, r_tOf, r_tAr, r_tAn, r_tOr, r_tNo, r_tYs, r_eIf, r_eAn, r_eOr, r_eNo, r_evV0, r_evVc, r_eMt, r_eMs, r_eMe, r_eCall, r_eCallI, r_sSeq0, r_sSeqc, r_gN, r_gTs0, r_gTsc, r_gT, r_sAsg, r_evO0, r_evOc, r_stA0, r_stAc, r_sPar, r_sEx, r_sAug, r_sPut, r_sRet, r_sIf, r_sPass, r_sCont, r_sRaise, r_eVs, r_itV, r_itR1, r_itR2, r_itE, muT, asB, truth, tyD_l, tyD_d, tyD_s, oLst, oTup, oLen_intsT, oMod_pos hp, tkD_in, hb2]); rw [wp_ok])
        rw [whlK_t, wp_seq]
        ((conv => arg 1; simp -implicitDefEqProofs [r_evA0, r_evAe, r_evAp, r_eOp, r_eC, r_eV, r_eM, r_tOf, r_tAr, r_tAn, r_tOr, r_tNo, r_tYs, r_eIf, r_eAn, r_eOr, r_eNo, r_evV0, r_evVc, r_eMt, r_eMs, r_eMe, r_eCall, r_eCallI, r_sSeq0, r_sSeqc, r_gN, r_gTs0, r_gTsc, r_gT, r_sAsg, r_evO0, r_evOc, r_stA0, r_stAc, r_sPar, r_sEx, r_sAug, r_sPut, r_sRet, r_sIf, r_sPass, r_sCont, r_sRaise, r_eVs, r_itV, r_itR1, r_itR2, r_itE, muT, asB, truth, tyD_l, tyD_d, tyD_s, oLst, oTup]); rw [wp_ok])
        show wp (sSeq [] _) _ _
        rw [wp_nil]
        cases m with
        | zero => rw [upN] at hu; subst hu; rw [hfree] at hb; cases hb
        | succ m => exact ⟨m, Nat.lt_succ_self m, h' + 1, rfl, by rw [upN_go hb] at hu; exact hu⟩
      | false =>
        have hb2 : (decide (((k : Int) + h') % R.length ∈ T)) = false := hb
        have hb3 := of_decide_eq_false hb2
        rw [upN_stop hb] at hu
        subst hu
        ((conv => arg 1; simp -implicitDefEqProofs [r_evA0, r_evAe, r_evAp, r_eOp, r_eC, r_eV, r_eM, r_tOf, r_tAr, r_tAn, r_tOr, r_tNo, r_tYs, r_eIf, r_eAn, r_eOr, r_eNo, r_evV0, r_evVc, r_eMt, r_eMs, r_eMe, r_eCall, r_eCallI, r_sSeq0, r_sSeqc, r_gN, r_gTs0, r_gTsc, r_gT, r_sAsg, r_evO0, r_evOc, r_stA0, r_stAc, r_sPar, r_sEx, r_sAug, r_sPut, r_sRet, r_sIf, r_sPass, r_sCont, r_sRaise, r_eVs, r_itV, r_itR1, r_itR2, r_itE, muT, asB, truth, tyD_l, tyD_d, tyD_s, oLst, oTup, oLen_intsT, oMod_pos hp, tkD_in, hb2]); rw [wp_ok])
        rw [whlK_f, seqK_nx]
        have hs := uSet_new (kvs := tkD T) tkD_int (p := ((k : Int) + h') % R.length) (v := .bool true) (by rw [tkD_get, if_neg hb3]) (by unfold tkD; rw [List.length_map]; omega)
        (rw [wp_seq]; (conv => arg 1; simp -implicitDefEqProofs [r_evA0, r_evAe, r_evAp, r_eOp, r_eC, r_eV, r_eM, r_tOf, r_tAr, r_tAn, r_tOr, r_tNo, r_tYs, r_eIf, r_eAn, r_eOr, r_eNo, r_evV0, r_evVc, r_eMt, r_eMs, r_eMe, r_eCall, r_eCallI, r_sSeq0, r_sSeqc, r_gN, r_gTs0, r_gTsc, r_gT, r_sAsg, r_evO0, r_evOc, r_stA0, r_stAc, r_sPar, r_sEx, r_sAug, r_sPut, r_sRet, r_sIf, r_sPass, r_sCont, r_sRaise, r_eVs, r_itV, r_itR1, r_itR2, r_itE, muT, asB, truth, tyD_l, tyD_d, tyD_s, oLst, oTup, oLen_intsT, oMod_pos hp, hs]); rw [wp_nx])
        rw [wp_seq]
        ((conv => arg 1; simp -implicitDefEqProofs [r_evA0, r_evAe, r_evAp, r_eOp, r_eC, r_eV, r_eM, r_tOf, r_tAr, r_tAn, r_tOr, r_tNo, r_tYs, r_eIf, r_eAn, r_eOr, r_eNo, r_evV0, r_evVc, r_eMt, r_eMs, r_eMe, r_eCall, r_eCallI, r_sSeq0, r_sSeqc, r_gN, r_gTs0, r_gTsc, r_gT, r_sAsg, r_evO0, r_evOc, r_stA0, r_stAc, r_sPar, r_sEx, r_sAug, r_sPut, r_sRet, r_sIf, r_sPass, r_sCont, r_sRaise, r_eVs, r_itV, r_itR1, r_itR2, r_itE, muT, asB, truth, tyD_l, tyD_d, tyD_s, oLst, oTup, mAppend_int (by omega : M.length < 16777216)]); rw [wp_ok])
        show wp (sSeq [] _) _ _
        rw [wp_nil]
        exact ⟨hk, some k, some h', by simp [tkD, oI?]⟩
    · rintro e ⟨_, o3, o4, rfl⟩
      show wp (sSeq _ _) _ _
      rw [wp_seq]
      rw [enum_len, List.length_map]
      have ht : oTuple [intsL (madeV R R.length)] = some (intsT (madeV R R.length), false) := rfl
      ((conv => arg 1; simp -implicitDefEqProofs [r_evA0, r_evAe, r_evAp, r_eOp, r_eC, r_eV, r_eM, r_tOf, r_tAr, r_tAn, r_tOr, r_tNo, r_tYs, r_eIf, r_eAn, r_eOr, r_eNo, r_evV0, r_evVc, r_eMt, r_eMs, r_eMe, r_eCall, r_eCallI, r_sSeq0, r_sSeqc, r_gN, r_gTs0, r_gTsc, r_gT, r_sAsg, r_evO0, r_evOc, r_stA0, r_stAc, r_sPar, r_sEx, r_sAug, r_sPut, r_sRet, r_sIf, r_sPass, r_sCont, r_sRaise, r_eVs, r_itV, r_itR1, r_itR2, r_itE, muT, asB, truth, tyD_l, tyD_d, tyD_s, oLst, oTup, ht]); rw [wp_ok])
      exact ⟨rfl, rfl⟩
end Py
end
section
set_option linter.all false
namespace Py
open PySem L2
/-! rows drawn -/
theorem oLR1_ok {n : Nat} (h : n ≤ 1000000) : oLR1 [.int (n : Int)] = some (intsL (rngI n), true) := by
  have e : (2 : Int) ^ 62 = 4611686018427387904 := by decide
  have hr : rgOk 0 (n : Int) = true := by
    unfold rgOk
    rw [e, decide_eq_true (by omega), decide_eq_true (by omega), decide_eq_true (by omega), decide_eq_true (by omega), decide_eq_true (by omega)]; rfl
  show (if rgOk 0 (n : Int) then some (PyData.list (rgD 0 n), true) else none) = _
  rw [if_pos hr]
  have e2 : rgD 0 (n : Int) = (rngI n).map PyData.int := by
    unfold rgD rngI
    rw [show ((n : Int) - 0).toNat = n by omega, List.map_map]
    apply List.map_congr_left
    intro k _
    simp
  rw [e2]
  rfl
/-- the place, the height of a throw drawn -/
theorem place_mod {n p k x : Int} (h0 : 0 ≤ p) (h1 : p < n) : (k + ((p - k) % n + n * x)) % n = p := by
  rw [show k + ((p - k) % n + n * x) = (k + (p - k) % n) + n * x by omega, Int.add_mul_emod_self_left, Int.add_emod_emod, show k + (p - k) = p by omega]
  exact Int.emod_eq_of_lt h0 h1
structure RowOk (R : List Int) (most len : Int) : Prop where
  pos : R ≠ []
  le : (R.length : Int) ≤ len
  hi : ∀ h, h ∈ R → 0 ≤ h ∧ h ≤ most
theorem row_ok {row : List Int} {a most : Int} {len : Nat} (hr : row ≠ []) (hrl : row.length < 1000000) (hm : (len : Int) ≤ most) (hm2 : most < 1000) (hl0 : 0 < len) : ∃ R a', m__law_row [boxV row a, .int most, .int len] = .ret (intsT R) false (boxV row a') ∧ RowOk R most len ∧ (landV' R).Nodup := by
  have key := fnI_ret (n := 10) (k := 3) (body := sSeq s__law_row) (ds := [boxV row a, .int most, .int len]) (Z := fun d o b => ∃ R a', d = intsT R ∧ o = false ∧ b = boxV row a' ∧ RowOk R most len ∧ (landV' R).Nodup) rfl ?_
  · obtain ⟨d, o, b, h1, R, a', rfl, rfl, rfl, h3, h4⟩ := key
    exact ⟨R, a', h1, h3, h4⟩
  · unfold s__law_row
    show wp (sSeq _ [some (boxV row a, Tg.io), some (.int most, Tg.fz), some (.int len, Tg.fz), none, none, none, none, none, none, none]) _ _
    have hlp : (0 : Int) < len := by omega
    have hnx := next_ok (a := a) hlp hr hrl
    have hlt := nextV_lt (row := row) (a := a) hlp
    generalize nextV row a len = v at hnx hlt
    obtain ⟨n, hn⟩ : ∃ n : Nat, (1 : Int) + v = n := ⟨(1 + v).toNat, by omega⟩
    have hnp : (0 : Int) < n := by omega
    (rw [wp_seq]; (conv => arg 1; simp -implicitDefEqProofs [r_evA0, r_evAe, r_evAp, r_eOp, r_eC, r_eV, r_eM, r_tOf, r_tAr, r_tAn, r_tOr, r_tNo, r_tYs, r_eIf, r_eAn, r_eOr, r_eNo, r_evV0, r_evVc, r_eMt, r_eMs, r_eMe, r_eCall, r_eCallI, r_sSeq0, r_sSeqc, r_gN, r_gTs0, r_gTsc, r_gT, r_sAsg, r_evO0, r_evOc, r_stA0, r_stAc, r_sPar, r_sEx, r_sAug, r_sPut, r_sRet, r_sIf, r_sPass, r_sCont, r_sRaise, r_eVs, r_itV, r_itR1, r_itR2, r_itE, muT, asB, truth, tyD_l, tyD_d, tyD_s, oLst, oTup, hnx, hn]); rw [wp_nx])
    (rw [wp_seq]; (conv => arg 1; simp -implicitDefEqProofs [r_evA0, r_evAe, r_evAp, r_eOp, r_eC, r_eV, r_eM, r_tOf, r_tAr, r_tAn, r_tOr, r_tNo, r_tYs, r_eIf, r_eAn, r_eOr, r_eNo, r_evV0, r_evVc, r_eMt, r_eMs, r_eMe, r_eCall, r_eCallI, r_sSeq0, r_sSeqc, r_gN, r_gTs0, r_gTsc, r_gT, r_sAsg, r_evO0, r_evOc, r_stA0, r_stAc, r_sPar, r_sEx, r_sAug, r_sPut, r_sRet, r_sIf, r_sPass, r_sCont, r_sRaise, r_eVs, r_itV, r_itR1, r_itR2, r_itE, muT, asB, truth, tyD_l, tyD_d, tyD_s, oLst, oTup, oLR1_ok (by omega : n ≤ 1000000)]); rw [wp_nx])
    (rw [wp_seq]; (conv => arg 1; simp -implicitDefEqProofs [r_evA0, r_evAe, r_evAp, r_eOp, r_eC, r_eV, r_eM, r_tOf, r_tAr, r_tAn, r_tOr, r_tNo, r_tYs, r_eIf, r_eAn, r_eOr, r_eNo, r_evV0, r_evVc, r_eMt, r_eMs, r_eMe, r_eCall, r_eCallI, r_sSeq0, r_sSeqc, r_gN, r_gTs0, r_gTsc, r_gT, r_sAsg, r_evO0, r_evOc, r_stA0, r_stAc, r_sPar, r_sEx, r_sAug, r_sPut, r_sRet, r_sIf, r_sPass, r_sCont, r_sRaise, r_eVs, r_itV, r_itR1, r_itR2, r_itE, muT, asB, truth, tyD_l, tyD_d, tyD_s, oLst, oTup]); rw [wp_nx])
    rw [wp_seq]
    refine wp_for (ds := rangeL 0 n) (by (simp -implicitDefEqProofs [r_evA0, r_evAe, r_evAp, r_eOp, r_eC, r_eV, r_eM, r_tOf, r_tAr, r_tAn, r_tOr, r_tNo, r_tYs, r_eIf, r_eAn, r_eOr, r_eNo, r_evV0, r_evVc, r_eMt, r_eMs, r_eMe, r_eCall, r_eCallI, r_sSeq0, r_sSeqc, r_gN, r_gTs0, r_gTsc, r_gT, r_sAsg, r_evO0, r_evOc, r_stA0, r_stAc, r_sPar, r_sEx, r_sAug, r_sPut, r_sRet, r_sIf, r_sPass, r_sCont, r_sRaise, r_eVs, r_itV, r_itR1, r_itR2, r_itE, muT, asB, truth, tyD_l, tyD_d, tyD_s, oLst, oTup, lim62_n (by omega : n ≤ 1000000)] <;> first | rfl | exact ⟨rfl, rfl⟩)) (fun k e => ∃ (R left : List Int) (a' : Int) (o6 o7 o8 o9 : Option Int), e = [some (boxV row a', Tg.io), some (.int most, Tg.fz), some (.int len, Tg.fz), some (.int n, Tg.fz), some (intsL left, Tg.own), some (intsL R, Tg.own), oI? o6, oI? o7, oI? o8, oI? o9] ∧ R.length = k ∧ (landN n R ++ left).Perm (rngI n) ∧ ∀ h, h ∈ R → 0 ≤ h ∧ h ≤ most) ⟨[], rngI n, a + 1, none, none, none, none, rfl, rfl, List.Perm.refl _, fun h q => absurd q (by simp)⟩ ?_ ?_
    · rintro k d e hd ⟨R, left, a', o6, o7, o8, o9, rfl, hRl, hperm, hhi⟩
      obtain ⟨hk, rfl⟩ := range_get hd
      have hlen := pick_len hperm
      have hleft : (0 : Int) < left.length := by omega
      refine ⟨[some (boxV row a', Tg.io), some (.int most, Tg.fz), some (.int len, Tg.fz), some (.int n, Tg.fz), some (intsL left, Tg.own), some (intsL R, Tg.own), some (.int k, Tg.fz), oI? o7, oI? o8, oI? o9], by simp -implicitDefEqProofs [r_evA0, r_evAe, r_evAp, r_eOp, r_eC, r_eV, r_eM, r_tOf, r_tAr, r_tAn, r_tOr, r_tNo, r_tYs, r_eIf, r_eAn, r_eOr, r_eNo, r_evV0, r_evVc, r_eMt, r_eMs, r_eMe, r_eCall, r_eCallI, r_sSeq0, r_sSeqc, r_gN, r_gTs0, r_gTsc, r_gT, r_sAsg, r_evO0, r_evOc, r_stA0, r_stAc, r_sPar, r_sEx, r_sAug, r_sPut, r_sRet, r_sIf, r_sPass, r_sCont, r_sRaise, r_eVs, r_itV, r_itR1, r_itR2, r_itE, muT, asB, truth, tyD_l, tyD_d, tyD_s, oLst, oTup], ?_⟩
      have hnx := next_ok (a := a') hleft hr hrl
      have hlt := nextV_lt (row := row) (a := a') hleft
      generalize nextV row a' left.length = i at hnx hlt
      have hil : i.toNat < left.length := by omega
      have hpop := mPopAt_ints (L := left) hlt.1 hlt.2 (by omega)
      have hpm := pick_mem hperm (List.getElem_mem hil)
      have hstep := fun h => pick_ok (h := h) hperm hil
      generalize hp : left[i.toNat]'hil = p at hpop hpm hstep
      (rw [wp_seq]; (conv => arg 1; simp -implicitDefEqProofs [r_evA0, r_evAe, r_evAp, r_eOp, r_eC, r_eV, r_eM, r_tOf, r_tAr, r_tAn, r_tOr, r_tNo, r_tYs, r_eIf, r_eAn, r_eOr, r_eNo, r_evV0, r_evVc, r_eMt, r_eMs, r_eMe, r_eCall, r_eCallI, r_sSeq0, r_sSeqc, r_gN, r_gTs0, r_gTsc, r_gT, r_sAsg, r_evO0, r_evOc, r_stA0, r_stAc, r_sPar, r_sEx, r_sAug, r_sPut, r_sRet, r_sIf, r_sPass, r_sCont, r_sRaise, r_eVs, r_itV, r_itR1, r_itR2, r_itE, muT, asB, truth, tyD_l, tyD_d, tyD_s, oLst, oTup, oLen_ints, hnx, hpop]); rw [wp_nx])
      (rw [wp_seq]; (conv => arg 1; simp -implicitDefEqProofs [r_evA0, r_evAe, r_evAp, r_eOp, r_eC, r_eV, r_eM, r_tOf, r_tAr, r_tAn, r_tOr, r_tNo, r_tYs, r_eIf, r_eAn, r_eOr, r_eNo, r_evV0, r_evVc, r_eMt, r_eMs, r_eMe, r_eCall, r_eCallI, r_sSeq0, r_sSeqc, r_gN, r_gTs0, r_gTsc, r_gT, r_sAsg, r_evO0, r_evOc, r_stA0, r_stAc, r_sPar, r_sEx, r_sAug, r_sPut, r_sRet, r_sIf, r_sPass, r_sCont, r_sRaise, r_eVs, r_itV, r_itR1, r_itR2, r_itE, muT, asB, truth, tyD_l, tyD_d, tyD_s, oLst, oTup, oMod_pos hnp]); rw [wp_nx])
      have hh0 := Int.emod_nonneg (p - k) (Int.ne_of_gt hnp)
      have hh1 := Int.emod_lt_of_pos (p - k) hnp
      have hplace := fun x => place_mod (n := (n : Int)) (p := p) (k := k) (x := x) hpm.1 hpm.2
      generalize (p - (k : Int)) % n = h0 at hh0 hh1 hplace
      have hdv : (n : Int) * ((most - h0) / n) ≤ most - h0 := Int.mul_ediv_self_le (Int.ne_of_gt hnp)
      (rw [wp_seq]; (conv => arg 1; simp -implicitDefEqProofs [r_evA0, r_evAe, r_evAp, r_eOp, r_eC, r_eV, r_eM, r_tOf, r_tAr, r_tAn, r_tOr, r_tNo, r_tYs, r_eIf, r_eAn, r_eOr, r_eNo, r_evV0, r_evVc, r_eMt, r_eMs, r_eMe, r_eCall, r_eCallI, r_sSeq0, r_sSeqc, r_gN, r_gTs0, r_gTsc, r_gT, r_sAsg, r_evO0, r_evOc, r_stA0, r_stAc, r_sPar, r_sEx, r_sAug, r_sPut, r_sRet, r_sIf, r_sPass, r_sCont, r_sRaise, r_eVs, r_itV, r_itR1, r_itR2, r_itE, muT, asB, truth, tyD_l, tyD_d, tyD_s, oLst, oTup, oDiv_pos hnp (by omega : (n : Int) < 1073741824)]); rw [wp_nx])
      generalize (most - h0) / (n : Int) = rest at hdv
      have fin : ∀ x : Int, 0 ≤ x → (x = 0 ∨ x ≤ rest) → ∀ (a' : Int) (o9 : Int), goOn (fun e => ∃ (R left : List Int) (a' : Int) (o6 o7 o8 o9 : Option Int), e = [some (boxV row a', Tg.io), some (.int most, Tg.fz), some (.int len, Tg.fz), some (.int n, Tg.fz), some (intsL left, Tg.own), some (intsL R, Tg.own), oI? o6, oI? o7, oI? o8, oI? o9] ∧ R.length = k + 1 ∧ (landN n R ++ left).Perm (rngI n) ∧ ∀ h, h ∈ R → 0 ≤ h ∧ h ≤ most) (fun _ => False) (.nx [some (boxV row a', Tg.io), some (.int most, Tg.fz), some (.int len, Tg.fz), some (.int n, Tg.fz), some (intsL (left.eraseIdx i.toNat), Tg.own), some (intsL (R ++ [h0 + n * x]), Tg.own), some (.int k, Tg.fz), some (.int p, Tg.fz), some (.int h0, Tg.fz), some (.int o9, Tg.fz)]) := by
        intro x hx0 hx1 a' o9
        refine ⟨R ++ [h0 + n * x], left.eraseIdx i.toNat, a', some k, some p, some h0, some o9, rfl, by rw [List.length_append, hRl]; rfl, hstep _ (by rw [hRl]; exact hplace x), fun h hh => ?_⟩
        rcases List.mem_append.mp hh with z | z
        · exact hhi h z
        · rw [List.mem_singleton.mp z]
          have a0 : 0 ≤ (n : Int) * x := Int.mul_nonneg (by omega) hx0
          refine ⟨by omega, ?_⟩
          rcases hx1 with rfl | hx1
          · rw [Int.mul_zero]; omega
          · have := Int.mul_le_mul_of_nonneg_left hx1 (by omega : 0 ≤ (n : Int))
            omega
      have hRl2 : R.length < 16777216 := by omega
      have hmul : ∀ x : Int, oMul [.int n, .int x] = some (.int (n * x), false) := fun x => oMul_int (cMul_l (by omega) (by
        have e : (2 : Int) ^ 64 = 18446744073709551616 := by decide
        rw [e]; omega))
      rw [wp_seq]
      by_cases hrest : 0 < rest
      · have hr1 : (0 : Int) < rest + 1 := by omega
        have hnx2 := next_ok (a := a' + 1) hr1 hr hrl
        have hlt2 := nextV_lt (row := row) (a := a' + 1) hr1
        generalize nextV row (a' + 1) (rest + 1) = x at hnx2 hlt2
        ((conv => arg 1; simp -implicitDefEqProofs [r_evA0, r_evAe, r_evAp, r_eOp, r_eC, r_eV, r_eM, r_tOf, r_tAr, r_tAn, r_tOr, r_tNo, r_tYs, r_eIf, r_eAn, r_eOr, r_eNo, r_evV0, r_evVc, r_eMt, r_eMs, r_eMe, r_eCall, r_eCallI, r_sSeq0, r_sSeqc, r_gN, r_gTs0, r_gTsc, r_gT, r_sAsg, r_evO0, r_evOc, r_stA0, r_stAc, r_sPar, r_sEx, r_sAug, r_sPut, r_sRet, r_sIf, r_sPass, r_sCont, r_sRaise, r_eVs, r_itV, r_itR1, r_itR2, r_itE, muT, asB, truth, tyD_l, tyD_d, tyD_s, oLst, oTup, hrest, hnx2, hmul, mAppend_int hRl2]); rw [wp_ok])
        show wp (sSeq [] _) _ _
        rw [wp_nil]
        exact fin x hlt2.1 (.inr (by omega)) _ _
      · ((conv => arg 1; simp -implicitDefEqProofs [r_evA0, r_evAe, r_evAp, r_eOp, r_eC, r_eV, r_eM, r_tOf, r_tAr, r_tAn, r_tOr, r_tNo, r_tYs, r_eIf, r_eAn, r_eOr, r_eNo, r_evV0, r_evVc, r_eMt, r_eMs, r_eMe, r_eCall, r_eCallI, r_sSeq0, r_sSeqc, r_gN, r_gTs0, r_gTsc, r_gT, r_sAsg, r_evO0, r_evOc, r_stA0, r_stAc, r_sPar, r_sEx, r_sAug, r_sPut, r_sRet, r_sIf, r_sPass, r_sCont, r_sRaise, r_eVs, r_itV, r_itR1, r_itR2, r_itE, muT, asB, truth, tyD_l, tyD_d, tyD_s, oLst, oTup, hrest, hmul, mAppend_int hRl2]); rw [wp_ok])
        show wp (sSeq [] _) _ _
        rw [wp_nil]
        have := fin 0 (Int.le_refl 0) (.inl rfl) (a' + 1) rest
        simp only [Int.mul_zero, Int.add_zero] at this
        exact this
    · rintro e ⟨R, left, a', o6, o7, o8, o9, rfl, hRl, hperm, hhi⟩
      have hRl : R.length = n := by rw [hRl]; simp [rangeL]
      show wp (sSeq _ _) _ _
      rw [wp_seq]
      have ht : oTuple [intsL R] = some (intsT R, false) := rfl
      ((conv => arg 1; simp -implicitDefEqProofs [r_evA0, r_evAe, r_evAp, r_eOp, r_eC, r_eV, r_eM, r_tOf, r_tAr, r_tAn, r_tOr, r_tNo, r_tYs, r_eIf, r_eAn, r_eOr, r_eNo, r_evV0, r_evVc, r_eMt, r_eMs, r_eMe, r_eCall, r_eCallI, r_sSeq0, r_sSeqc, r_gN, r_gTs0, r_gTsc, r_gT, r_sAsg, r_evO0, r_evOc, r_stA0, r_stAc, r_sPar, r_sEx, r_sAug, r_sPut, r_sRet, r_sIf, r_sPass, r_sCont, r_sRaise, r_eVs, r_itV, r_itR1, r_itR2, r_itE, muT, asB, truth, tyD_l, tyD_d, tyD_s, oLst, oTup, ht]); rw [wp_ok])
      exact ⟨_, rfl, R, a', rfl, rfl, rfl, ⟨fun z => by subst z; simp at hRl; omega, by omega, hhi⟩, pick_end hperm hRl⟩
end Py
end
section
set_option linter.all false
namespace Py
open PySem L2
theorem backE1 {e0 e : Nv} {v : Nat} : backE e0 e [v] = e.set v (gt e0 v) := rfl
theorem oTup_intsL (L : List Int) : oTuple [.list (L.map PyData.int)] = some (intsT L, false) := rfl
theorem some_row {row : List Int} {a most : Int} {len : Nat} (hr : row ≠ []) (hrl : row.length < 1000000) (hm : 0 ≤ most) (hl0 : 0 < len) (hl1 : len < 1000) : ∃ R a', m__law_some [boxV row a, .int most, .int len] = .ret (intsT R) false (boxV row a') ∧ RowOk R most len := by
  have key := fnI_ret (n := 4) (k := 3) (body := sSeq s__law_some) (ds := [boxV row a, .int most, .int len]) (Z := fun d o b => ∃ R a', d = intsT R ∧ o = false ∧ b = boxV row a' ∧ RowOk R most len) rfl ?_
  · obtain ⟨d, o, b, h1, R, a', rfl, rfl, rfl, h3⟩ := key
    exact ⟨R, a', h1, h3⟩
  · unfold s__law_some
    show wp (sSeq _ [some (boxV row a, Tg.io), some (.int most, Tg.fz), some (.int len, Tg.fz), none]) _ _
    have hlp : (0 : Int) < len := by omega
    have hnx := next_ok (a := a) hlp hr hrl
    have hlt := nextV_lt (row := row) (a := a) hlp
    generalize nextV row a len = v at hnx hlt
    obtain ⟨n, hn⟩ : ∃ n : Nat, (1 : Int) + v = n := ⟨(1 + v).toNat, by omega⟩
    have hm1 : (0 : Int) < most + 1 := by omega
    have hq := lc_inv (it := itR1 (.ev (eOp oAdd [.ev (eC (.int 1)), .ev (eCallI m__law_next 0 [eV 2])]))) (vs := [3]) (g := gN 3) (t := tYs) (f := eCallI m__law_next 0 [eOp oAdd [.pk 1, .ev (eC (.int 1))]]) (e := [some (boxV row a, Tg.io), some (.int most, Tg.fz), some (.int len, Tg.fz), none]) (e1 := [some (boxV row (a + 1), Tg.io), some (.int most, Tg.fz), some (.int len, Tg.fz), none]) (ds := rangeL 0 n)
      (fun k acc e => ∃ (R : List Int) (a' : Int), acc = R.map .int ∧ e = [some (boxV row a', Tg.io), some (.int most, Tg.fz), some (.int len, Tg.fz), none] ∧ R.length = k ∧ ∀ h, h ∈ R → 0 ≤ h ∧ h ≤ most)
      (by (simp -implicitDefEqProofs [r_evA0, r_evAe, r_evAp, r_eOp, r_eC, r_eV, r_eM, r_tOf, r_tAr, r_tAn, r_tOr, r_tNo, r_tYs, r_eIf, r_eAn, r_eOr, r_eNo, r_evV0, r_evVc, r_eMt, r_eMs, r_eMe, r_eCall, r_eCallI, r_sSeq0, r_sSeqc, r_gN, r_gTs0, r_gTsc, r_gT, r_sAsg, r_evO0, r_evOc, r_stA0, r_stAc, r_sPar, r_sEx, r_sAug, r_sPut, r_sRet, r_sIf, r_sPass, r_sCont, r_sRaise, r_eVs, r_itV, r_itR1, r_itR2, r_itE, muT, asB, truth, tyD_l, tyD_d, tyD_s, oLst, oTup, hnx, hn, lim62_n (by omega : n ≤ 1000000)] <;> first | rfl | exact ⟨rfl, rfl⟩)) rfl ⟨[], a + 1, rfl, rfl, rfl, fun h q => absurd q (by simp)⟩ (by simp [rangeL]; omega) ?_
    · obtain ⟨acc, e', h1, R, a', rfl, rfl, hRl, hhi⟩ := hq
      have ht := oTup_intsL R
      rw [wp_seq]
      ((conv => arg 1; simp -implicitDefEqProofs [r_evA0, r_evAe, r_evAp, r_eOp, r_eC, r_eV, r_eM, r_tOf, r_tAr, r_tAn, r_tOr, r_tNo, r_tYs, r_eIf, r_eAn, r_eOr, r_eNo, r_evV0, r_evVc, r_eMt, r_eMs, r_eMe, r_eCall, r_eCallI, r_sSeq0, r_sSeqc, r_gN, r_gTs0, r_gTsc, r_gT, r_sAsg, r_evO0, r_evOc, r_stA0, r_stAc, r_sPar, r_sEx, r_sAug, r_sPut, r_sRet, r_sIf, r_sPass, r_sCont, r_sRaise, r_eVs, r_itV, r_itR1, r_itR2, r_itE, muT, asB, truth, tyD_l, tyD_d, tyD_s, oLst, oTup, h1, ht, backE1]); rw [wp_ok])
      refine ⟨_, rfl, R, a', rfl, rfl, rfl, ⟨?_, ?_, hhi⟩⟩
      · rintro rfl; simp [rangeL] at hRl; omega
      · simp [rangeL] at hRl; omega
    · rintro k d acc e hd ⟨R, a', rfl, rfl, hRl, hhi⟩
      obtain ⟨hk, rfl⟩ := range_get hd
      have hnx := next_ok (a := a') hm1 hr hrl
      have hlt := nextV_lt (row := row) (a := a') hm1
      generalize nextV row a' (most + 1) = x at hnx hlt
      refine ⟨[some (boxV row a', Tg.io), some (.int most, Tg.fz), some (.int len, Tg.fz), some (.int k, Tg.fz)], true, _, by simp -implicitDefEqProofs [r_evA0, r_evAe, r_evAp, r_eOp, r_eC, r_eV, r_eM, r_tOf, r_tAr, r_tAn, r_tOr, r_tNo, r_tYs, r_eIf, r_eAn, r_eOr, r_eNo, r_evV0, r_evVc, r_eMt, r_eMs, r_eMe, r_eCall, r_eCallI, r_sSeq0, r_sSeqc, r_gN, r_gTs0, r_gTsc, r_gT, r_sAsg, r_evO0, r_evOc, r_stA0, r_stAc, r_sPar, r_sEx, r_sAug, r_sPut, r_sRet, r_sIf, r_sPass, r_sCont, r_sRaise, r_eVs, r_itV, r_itR1, r_itR2, r_itE, muT, asB, truth, tyD_l, tyD_d, tyD_s, oLst, oTup], rfl, fun z => (by cases z), fun _ => ⟨.int x, false, _, by simp -implicitDefEqProofs [r_evA0, r_evAe, r_evAp, r_eOp, r_eC, r_eV, r_eM, r_tOf, r_tAr, r_tAn, r_tOr, r_tNo, r_tYs, r_eIf, r_eAn, r_eOr, r_eNo, r_evV0, r_evVc, r_eMt, r_eMs, r_eMe, r_eCall, r_eCallI, r_sSeq0, r_sSeqc, r_gN, r_gTs0, r_gTsc, r_gT, r_sAsg, r_evO0, r_evOc, r_stA0, r_stAc, r_sPar, r_sEx, r_sAug, r_sPut, r_sRet, r_sIf, r_sPass, r_sCont, r_sRaise, r_eVs, r_itV, r_itR1, r_itR2, r_itE, muT, asB, truth, tyD_l, tyD_d, tyD_s, oLst, oTup, hnx]; rfl, R ++ [x], a' + 1, by simp, rfl, by rw [List.length_append, hRl]; rfl, fun h hh => ?_⟩⟩
      rcases List.mem_append.mp hh with z | z
      · exact hhi h z
      · rw [List.mem_singleton.mp z]; omega
theorem order_ok {row : List Int} {a : Int} {n : Nat} (hr : row ≠ []) (hrl : row.length < 1000000) (hn : n < 1000) : ∃ O a', m__law_order [boxV row a, .int n] = .ret (intsL O) true (boxV row a') ∧ O.Perm (rngI n) := by
  have key := fnI_ret (n := 5) (k := 2) (body := sSeq s__law_order) (ds := [boxV row a, .int n]) (Z := fun d o b => ∃ R a', d = intsL R ∧ o = true ∧ b = boxV row a' ∧ R.Perm (rngI n)) rfl ?_
  · obtain ⟨d, o, b, h1, R, a', rfl, rfl, rfl, h3⟩ := key
    exact ⟨R, a', h1, h3⟩
  · unfold s__law_order
    show wp (sSeq _ [some (boxV row a, Tg.io), some (.int n, Tg.fz), none, none, none]) _ _
    (rw [wp_seq]; (conv => arg 1; simp -implicitDefEqProofs [r_evA0, r_evAe, r_evAp, r_eOp, r_eC, r_eV, r_eM, r_tOf, r_tAr, r_tAn, r_tOr, r_tNo, r_tYs, r_eIf, r_eAn, r_eOr, r_eNo, r_evV0, r_evVc, r_eMt, r_eMs, r_eMe, r_eCall, r_eCallI, r_sSeq0, r_sSeqc, r_gN, r_gTs0, r_gTsc, r_gT, r_sAsg, r_evO0, r_evOc, r_stA0, r_stAc, r_sPar, r_sEx, r_sAug, r_sPut, r_sRet, r_sIf, r_sPass, r_sCont, r_sRaise, r_eVs, r_itV, r_itR1, r_itR2, r_itE, muT, asB, truth, tyD_l, tyD_d, tyD_s, oLst, oTup, oLR1_ok (by omega : n ≤ 1000000)]); rw [wp_nx])
    (rw [wp_seq]; (conv => arg 1; simp -implicitDefEqProofs [r_evA0, r_evAe, r_evAp, r_eOp, r_eC, r_eV, r_eM, r_tOf, r_tAr, r_tAn, r_tOr, r_tNo, r_tYs, r_eIf, r_eAn, r_eOr, r_eNo, r_evV0, r_evVc, r_eMt, r_eMs, r_eMe, r_eCall, r_eCallI, r_sSeq0, r_sSeqc, r_gN, r_gTs0, r_gTsc, r_gT, r_sAsg, r_evO0, r_evOc, r_stA0, r_stAc, r_sPar, r_sEx, r_sAug, r_sPut, r_sRet, r_sIf, r_sPass, r_sCont, r_sRaise, r_eVs, r_itV, r_itR1, r_itR2, r_itE, muT, asB, truth, tyD_l, tyD_d, tyD_s, oLst, oTup]); rw [wp_nx])
    rw [wp_seq]
    refine wp_for (ds := rangeL 0 n) (by (simp -implicitDefEqProofs [r_evA0, r_evAe, r_evAp, r_eOp, r_eC, r_eV, r_eM, r_tOf, r_tAr, r_tAn, r_tOr, r_tNo, r_tYs, r_eIf, r_eAn, r_eOr, r_eNo, r_evV0, r_evVc, r_eMt, r_eMs, r_eMe, r_eCall, r_eCallI, r_sSeq0, r_sSeqc, r_gN, r_gTs0, r_gTsc, r_gT, r_sAsg, r_evO0, r_evOc, r_stA0, r_stAc, r_sPar, r_sEx, r_sAug, r_sPut, r_sRet, r_sIf, r_sPass, r_sCont, r_sRaise, r_eVs, r_itV, r_itR1, r_itR2, r_itE, muT, asB, truth, tyD_l, tyD_d, tyD_s, oLst, oTup, lim62_n (by omega : n ≤ 1000000)] <;> first | rfl | exact ⟨rfl, rfl⟩)) (fun k e => ∃ (R left : List Int) (a' : Int) (o4 : Option Int), e = [some (boxV row a', Tg.io), some (.int n, Tg.fz), some (intsL left, Tg.own), some (intsL R, Tg.own), oI? o4] ∧ R.length = k ∧ (R ++ left).Perm (rngI n)) ⟨[], rngI n, a, none, rfl, rfl, List.Perm.refl _⟩ ?_ ?_
    · rintro k d e hd ⟨R, left, a', o4, rfl, hRl, hperm⟩
      obtain ⟨hk, rfl⟩ := range_get hd
      have hlen := hperm.length_eq
      rw [List.length_append, rngI_len] at hlen
      have hleft : (0 : Int) < left.length := by omega
      refine ⟨[some (boxV row a', Tg.io), some (.int n, Tg.fz), some (intsL left, Tg.own), some (intsL R, Tg.own), some (.int k, Tg.fz)], by simp -implicitDefEqProofs [r_evA0, r_evAe, r_evAp, r_eOp, r_eC, r_eV, r_eM, r_tOf, r_tAr, r_tAn, r_tOr, r_tNo, r_tYs, r_eIf, r_eAn, r_eOr, r_eNo, r_evV0, r_evVc, r_eMt, r_eMs, r_eMe, r_eCall, r_eCallI, r_sSeq0, r_sSeqc, r_gN, r_gTs0, r_gTsc, r_gT, r_sAsg, r_evO0, r_evOc, r_stA0, r_stAc, r_sPar, r_sEx, r_sAug, r_sPut, r_sRet, r_sIf, r_sPass, r_sCont, r_sRaise, r_eVs, r_itV, r_itR1, r_itR2, r_itE, muT, asB, truth, tyD_l, tyD_d, tyD_s, oLst, oTup], ?_⟩
      have hnx := next_ok (a := a') hleft hr hrl
      have hlt := nextV_lt (row := row) (a := a') hleft
      generalize nextV row a' left.length = i at hnx hlt
      have hil : i.toNat < left.length := by omega
      have hpop := mPopAt_ints (L := left) hlt.1 hlt.2 (by omega)
      have hstep : (R ++ [left[i.toNat]'hil] ++ left.eraseIdx i.toNat).Perm (rngI n) := by
        refine List.Perm.trans ?_ hperm
        rw [List.append_assoc]
        exact List.Perm.append_left _ (erase_perm hil)
      generalize left[i.toNat]'hil = p at hpop hstep
      rw [wp_seq]
      ((conv => arg 1; simp -implicitDefEqProofs [r_evA0, r_evAe, r_evAp, r_eOp, r_eC, r_eV, r_eM, r_tOf, r_tAr, r_tAn, r_tOr, r_tNo, r_tYs, r_eIf, r_eAn, r_eOr, r_eNo, r_evV0, r_evVc, r_eMt, r_eMs, r_eMe, r_eCall, r_eCallI, r_sSeq0, r_sSeqc, r_gN, r_gTs0, r_gTsc, r_gT, r_sAsg, r_evO0, r_evOc, r_stA0, r_stAc, r_sPar, r_sEx, r_sAug, r_sPut, r_sRet, r_sIf, r_sPass, r_sCont, r_sRaise, r_eVs, r_itV, r_itR1, r_itR2, r_itE, muT, asB, truth, tyD_l, tyD_d, tyD_s, oLst, oTup, oLen_ints, hnx, hpop, mAppend_int (by omega : R.length < 16777216)]); rw [wp_ok])
      show wp (sSeq [] _) _ _
      rw [wp_nil]
      exact ⟨R ++ [p], left.eraseIdx i.toNat, a' + 1, some k, rfl, by rw [List.length_append, hRl]; rfl, hstep⟩
    · rintro e ⟨R, left, a', o4, rfl, hRl, hperm⟩
      have hRl : R.length = n := by rw [hRl]; simp [rangeL]
      have hlen := hperm.length_eq
      rw [List.length_append, rngI_len] at hlen
      have : left = [] := List.length_eq_zero_iff.mp (by omega)
      subst this
      rw [List.append_nil] at hperm
      show wp (sSeq _ _) _ _
      rw [wp_seq]
      ((conv => arg 1; simp -implicitDefEqProofs [r_evA0, r_evAe, r_evAp, r_eOp, r_eC, r_eV, r_eM, r_tOf, r_tAr, r_tAn, r_tOr, r_tNo, r_tYs, r_eIf, r_eAn, r_eOr, r_eNo, r_evV0, r_evVc, r_eMt, r_eMs, r_eMe, r_eCall, r_eCallI, r_sSeq0, r_sSeqc, r_gN, r_gTs0, r_gTsc, r_gT, r_sAsg, r_evO0, r_evOc, r_stA0, r_stAc, r_sPar, r_sEx, r_sAug, r_sPut, r_sRet, r_sIf, r_sPass, r_sCont, r_sRaise, r_eVs, r_itV, r_itR1, r_itR2, r_itE, muT, asB, truth, tyD_l, tyD_d, tyD_s, oLst, oTup]); rw [wp_ok])
      exact ⟨_, rfl, R, a', rfl, rfl, rfl, hperm⟩
theorem same_ok (A B : List Int) : m_same_throws [intsT A, intsT B] = .ret (.bool (decide (iSort A = iSort B))) false .none := by
  refine (fn_run rfl).trans ?_
  unfold s_same_throws
  show fin (sSeq _ [some (intsT A, Tg.fz), some (intsT B, Tg.fz)]) = _
  simp -implicitDefEqProofs [r_evA0, r_evAe, r_evAp, r_eOp, r_eC, r_eV, r_eM, r_tOf, r_tAr, r_tAn, r_tOr, r_tNo, r_tYs, r_eIf, r_eAn, r_eOr, r_eNo, r_evV0, r_evVc, r_eMt, r_eMs, r_eMe, r_eCall, r_eCallI, r_sSeq0, r_sSeqc, r_gN, r_gTs0, r_gTsc, r_gT, r_sAsg, r_evO0, r_evOc, r_stA0, r_stAc, r_sPar, r_sEx, r_sAug, r_sPut, r_sRet, r_sIf, r_sPass, r_sCont, r_sRaise, r_eVs, r_itV, r_itR1, r_itR2, r_itE, muT, asB, truth, tyD_l, tyD_d, tyD_s, oLst, oTup, oSort_intsT, oEq_intsL, fin]
/-! counts -/
def cntV (R : List Int) (h : Int) : Int := ((R.filter fun k => decide (k = h)).length : Int)
def cnD (K R : List Int) : List (PyData × PyData) := K.map fun h => (.int h, .int (cntV R h))
theorem cnD_int {K R : List Int} : ∀ p ∈ cnD K R, ∃ i : Int, p.1 = .int i := fun p hp => by
  obtain ⟨i, _, rfl⟩ := List.mem_map.mp hp
  exact ⟨i, rfl⟩
theorem cnD_get {K R : List Int} {x : Int} : dG (cnD K R) (.int x) = if x ∈ K then some (.int (cntV R x)) else none := by
  induction K with
  | nil => rfl
  | cons a T ih =>
    show dG ((.int a, .int (cntV R a)) :: cnD T R) (.int x) = _
    rw [dG_cons, kE_int, ih]
    by_cases h : a = x
    · subst h; simp
    · rw [decide_eq_false h]
      have : x ∈ a :: T ↔ x ∈ T := by
        rw [List.mem_cons]
        exact ⟨fun z => z.resolve_left fun q => h q.symm, .inr⟩
      simp [this]
theorem cntV_add {R : List Int} {h x : Int} : cntV (R ++ [h]) x = cntV R x + if h = x then 1 else 0 := by
  unfold cntV
  rw [List.filter_append, List.length_append]
  by_cases z : h = x <;> simp [z]
theorem cntV_zero {R : List Int} {x : Int} (h : x ∉ R) : cntV R x = 0 := by
  unfold cntV
  rw [List.filter_eq_nil_iff.mpr]
  · rfl
  · intro a ha z
    have : a = x := by simpa using z
    exact h (this ▸ ha)
theorem cnD_set {K R : List Int} {h : Int} (hn : K.Nodup) (hm : ∀ x, x ∈ K ↔ x ∈ R) : ∃ K', dS (cnD K R) (.int h) (.int (cntV R h + 1)) = cnD K' (R ++ [h]) ∧ K'.Nodup ∧ (∀ x, x ∈ K' ↔ x ∈ R ++ [h]) := by
  by_cases hk : h ∈ K
  · refine ⟨K, ?_, hn, fun x => ?_⟩
    · unfold dS
      have : ((cnD K R).any fun p => kE p.1 (.int h)) = true := by
        rw [List.any_eq_true]
        exact ⟨(.int h, .int (cntV R h)), List.mem_map.mpr ⟨h, hk, rfl⟩, by rw [kE_int]; simp⟩
      rw [if_pos this]
      unfold cnD
      rw [List.map_map]
      apply List.map_congr_left
      intro x _
      show (if kE (.int x) (.int h) then (PyData.int x, PyData.int (cntV R h + 1)) else (.int x, .int (cntV R x))) = _
      rw [kE_int, cntV_add]
      by_cases z : x = h
      · subst z; simp
      · have z2 : ¬ h = x := fun q => z q.symm
        simp [z, z2]
    · rw [List.mem_append, List.mem_singleton, hm]
      constructor
      · exact .inl
      · rintro (z | rfl)
        · exact z
        · exact (hm _).mp hk
  · have hR : h ∉ R := fun z => hk ((hm h).mpr z)
    refine ⟨K ++ [h], ?_, ?_, fun x => ?_⟩
    · rw [dS_new (by rw [cnD_get, if_neg hk])]
      unfold cnD
      rw [List.map_append]
      congr 1
      · apply List.map_congr_left
        intro x hx
        have z2 : ¬ h = x := fun q => hk (q ▸ hx)
        simp [cntV_add, z2]
      · simp [cntV_add]
    · rw [List.nodup_append]
      exact ⟨hn, by simp, fun a ha b hb z => hk (by rw [List.mem_singleton.mp hb] at z; exact z ▸ ha)⟩
    · rw [List.mem_append, List.mem_append, hm]
theorem uSet_dict {kvs : List (PyData × PyData)} (h : ∀ p ∈ kvs, ∃ i : Int, p.1 = .int i) {p : Int} {v : PyData} (hl : kvs.length < 16777216) : uSet (.dict kvs) (.int p) v = some (.dict (dS kvs (.int p) v)) := by
  have e : uDict (.dict kvs) (.int p) v = some (.dict (dS kvs (.int p) v)) := by
    show (match dK? (.dict kvs) with
    | some kvs => if kvs.length < 16777216 then some (PyData.dict (dS kvs (.int p) v)) else none
    | none => none) = _
    rw [dK_int h]
    show (if kvs.length < 16777216 then some (PyData.dict (dS kvs (.int p) v)) else none) = _
    rw [if_pos hl]
  have e1 : uList (PyData.dict kvs) (.int p) v = none := rfl
  unfold uSet s3Or
  rw [e1]
  exact e
theorem oGet2_int {kvs : List (PyData × PyData)} (h : ∀ p ∈ kvs, ∃ i : Int, p.1 = .int i) {p : Int} {x : PyData} : oGet2 [.dict kvs, .int p, x] = some ((dG kvs (.int p)).getD x, false) := by
  show (dAt (.dict kvs) (.int p)).map _ = _
  rw [dAt_int h]; rfl
theorem prD_cnD (K R : List Int) : prD (cnD K R) = K.map (prI (cntV R)) := by
  unfold prD cnD
  rw [List.map_map]; rfl
theorem counts_ok {R : List Int} (hl : R.length ≤ 1000) : m_counts_of [intsT R] = .ret (.list ((ssort R).map (prI (cntV R)))) true .none := by
  have key := fn_ret (n := 3) (k := 1) (body := sSeq s_counts_of) (ds := [intsT R]) (Z := fun d o => o = true ∧ d = .list ((ssort R).map (prI (cntV R)))) rfl ?_
  · obtain ⟨d, o, h1, rfl, rfl⟩ := key
    exact h1
  · unfold s_counts_of
    show wp (sSeq _ [some (intsT R, Tg.fz), none, none]) _ _
    (rw [wp_seq]; (conv => arg 1; simp -implicitDefEqProofs [r_evA0, r_evAe, r_evAp, r_eOp, r_eC, r_eV, r_eM, r_tOf, r_tAr, r_tAn, r_tOr, r_tNo, r_tYs, r_eIf, r_eAn, r_eOr, r_eNo, r_evV0, r_evVc, r_eMt, r_eMs, r_eMe, r_eCall, r_eCallI, r_sSeq0, r_sSeqc, r_gN, r_gTs0, r_gTsc, r_gT, r_sAsg, r_evO0, r_evOc, r_stA0, r_stAc, r_sPar, r_sEx, r_sAug, r_sPut, r_sRet, r_sIf, r_sPass, r_sCont, r_sRaise, r_eVs, r_itV, r_itR1, r_itR2, r_itE, muT, asB, truth, tyD_l, tyD_d, tyD_s, oLst, oTup, eNewK]); rw [wp_nx])
    rw [wp_seq]
    refine wp_for (ds := R.map .int) (by (simp -implicitDefEqProofs [r_evA0, r_evAe, r_evAp, r_eOp, r_eC, r_eV, r_eM, r_tOf, r_tAr, r_tAn, r_tOr, r_tNo, r_tYs, r_eIf, r_eAn, r_eOr, r_eNo, r_evV0, r_evVc, r_eMt, r_eMs, r_eMe, r_eCall, r_eCallI, r_sSeq0, r_sSeqc, r_gN, r_gTs0, r_gTsc, r_gT, r_sAsg, r_evO0, r_evOc, r_stA0, r_stAc, r_sPar, r_sEx, r_sAug, r_sPut, r_sRet, r_sIf, r_sPass, r_sCont, r_sRaise, r_eVs, r_itV, r_itR1, r_itR2, r_itE, muT, asB, truth, tyD_l, tyD_d, tyD_s, oLst, oTup, itsOf_intsT] <;> first | rfl | exact ⟨rfl, rfl⟩)) (fun k e => ∃ (K : List Int) (o2 : Option Int), e = [some (intsT R, Tg.fz), some (.dict (cnD K (R.take k)), Tg.own), oI? o2] ∧ K.length ≤ k ∧ K.Nodup ∧ ∀ x, x ∈ K ↔ x ∈ R.take k) ⟨[], none, rfl, Nat.le_refl _, List.nodup_nil, fun x => by simp⟩ ?_ ?_
    · rintro k d e hd ⟨K, o2, rfl, hKl, hn, hm⟩
      obtain ⟨h, hk0, rfl⟩ := ints_get hd
      have hk := (List.getElem?_eq_some_iff.mp hk0).1
      refine ⟨[some (intsT R, Tg.fz), some (.dict (cnD K (R.take k)), Tg.own), some (.int h, Tg.fz)], by simp -implicitDefEqProofs [r_evA0, r_evAe, r_evAp, r_eOp, r_eC, r_eV, r_eM, r_tOf, r_tAr, r_tAn, r_tOr, r_tNo, r_tYs, r_eIf, r_eAn, r_eOr, r_eNo, r_evV0, r_evVc, r_eMt, r_eMs, r_eMe, r_eCall, r_eCallI, r_sSeq0, r_sSeqc, r_gN, r_gTs0, r_gTsc, r_gT, r_sAsg, r_evO0, r_evOc, r_stA0, r_stAc, r_sPar, r_sEx, r_sAug, r_sPut, r_sRet, r_sIf, r_sPass, r_sCont, r_sRaise, r_eVs, r_itV, r_itR1, r_itR2, r_itE, muT, asB, truth, tyD_l, tyD_d, tyD_s, oLst, oTup], ?_⟩
      obtain ⟨K', hs, hn', hm'⟩ := cnD_set (h := h) hn hm
      have htake : R.take (k + 1) = R.take k ++ [h] := by rw [List.take_add_one, hk0]; rfl
      rw [htake]
      generalize R.take k = P at *
      have hget : oGet2 [.dict (cnD K P), .int h, .int 0] = some (.int (cntV P h), false) := by
        rw [oGet2_int cnD_int, cnD_get]
        by_cases z : h ∈ K
        · rw [if_pos z]; rfl
        · rw [if_neg z, cntV_zero (fun q => z ((hm h).mpr q))]; rfl
      have hput := uSet_dict (kvs := cnD K P) cnD_int (p := h) (v := .int (cntV P h + 1)) (by unfold cnD; rw [List.length_map]; omega)
      rw [hs] at hput
      have hK'l : K'.length ≤ k + 1 := by
        have := congrArg List.length hs
        unfold dS at this
        split at this
        · simp [cnD] at this; omega
        · simp [cnD] at this; omega
      rw [wp_seq]
      ((conv => arg 1; simp -implicitDefEqProofs [r_evA0, r_evAe, r_evAp, r_eOp, r_eC, r_eV, r_eM, r_tOf, r_tAr, r_tAn, r_tOr, r_tNo, r_tYs, r_eIf, r_eAn, r_eOr, r_eNo, r_evV0, r_evVc, r_eMt, r_eMs, r_eMe, r_eCall, r_eCallI, r_sSeq0, r_sSeqc, r_gN, r_gTs0, r_gTsc, r_gT, r_sAsg, r_evO0, r_evOc, r_stA0, r_stAc, r_sPar, r_sEx, r_sAug, r_sPut, r_sRet, r_sIf, r_sPass, r_sCont, r_sRaise, r_eVs, r_itV, r_itR1, r_itR2, r_itE, muT, asB, truth, tyD_l, tyD_d, tyD_s, oLst, oTup, hget, hput]); rw [wp_ok])
      show wp (sSeq [] _) _ _
      rw [wp_nil]
      exact ⟨K', some h, rfl, hK'l, hn', hm'⟩
    · rintro e ⟨K, o2, rfl, hKl, hn, hm⟩
      rw [List.length_map, List.take_length] at hm ⊢
      have hd : eSIt 1 [some (intsT R, Tg.fz), some (.dict (cnD K R), Tg.own), oI? o2] = .ok (.list ((ssort R).map (prI (cntV R))), true, [some (intsT R, Tg.fz), some (.dict (cnD K R), Tg.own), oI? o2]) := by
        show (match dK? (.dict (cnD K R)) with
          | some kvs => if sortOkB (prD kvs) then Py.R.ok (PyData.list (sortD (prD kvs)), true, _) else Py.R.bad
          | none => Py.R.bad) = _
        rw [dK_int cnD_int]
        show (if sortOkB (prD (cnD K R)) then _ else _) = _
        rw [prD_cnD, sortOk_pr, sort_pr _ hn hm]; rfl
      show wp (sSeq _ _) _ _
      rw [wp_seq]
      ((conv => arg 1; simp -implicitDefEqProofs [r_evA0, r_evAe, r_evAp, r_eOp, r_eC, r_eV, r_eM, r_tOf, r_tAr, r_tAn, r_tOr, r_tNo, r_tYs, r_eIf, r_eAn, r_eOr, r_eNo, r_evV0, r_evVc, r_eMt, r_eMs, r_eMe, r_eCall, r_eCallI, r_sSeq0, r_sSeqc, r_gN, r_gTs0, r_gTsc, r_gT, r_sAsg, r_evO0, r_evOc, r_stA0, r_stAc, r_sPar, r_sEx, r_sAug, r_sPut, r_sRet, r_sIf, r_sPass, r_sCont, r_sRaise, r_eVs, r_itV, r_itR1, r_itR2, r_itE, muT, asB, truth, tyD_l, tyD_d, tyD_s, oLst, oTup, hd]); rw [wp_ok])
      exact ⟨rfl, rfl⟩
end Py
end
section
set_option linter.all false
namespace Py
open PySem L2
theorem landV_rng (R : List Int) : landV R = (rngI R.length).map fun k => (k + R.getD k.toNat 0) % R.length := by
  apply List.ext_getElem?
  intro i
  by_cases hi : i < R.length
  · rw [show (landV R)[i]? = some (((i : Int) + R.getD i 0) % R.length) from landV'_get hi]
    unfold rngI
    simp [hi]
  · rw [List.getElem?_eq_none (by rw [landV_len]; omega), List.getElem?_eq_none (by rw [List.length_map, rngI_len]; omega)]
theorem oIsNot_b (a b : Bool) : oIsNot [.bool a, .bool b] = some (.bool (!decide (a = b)), false) := by cases a <;> cases b <;> rfl
theorem oIsa_bool (b : Bool) : oIsa "bool" [.bool b] = some (.bool true, false) := rfl
theorem clashIs_fl {P : List Int} {d : PyData} (h : clashIs P d) : Fl' 1 d := by
  rcases h with ⟨i, j, _, rfl⟩ | ⟨_, rfl⟩
  · exact fl_tup fun d hd => by
      rcases List.mem_cons.mp hd with rfl | hd
      · exact fl_int
      · rw [List.mem_singleton.mp hd]; exact fl_int
  · exact fl_none
/-- the beats whose throws land at b -/
def srcV (R : List Int) (b : Int) : List Int := (rngI R.length).filter fun e => decide ((e + R.getD e.toNat 0) % R.length = b)
def fstD : PyData → PyData
  | .list (x :: _) => x
  | _ => .none
def srcL (R : List Int) : List PyData := (rngI R.length).map fun b => intsL (srcV R b)
def fstL (R : List Int) : List PyData := (srcL R).map fstD
structure RP (R : List Int) : Prop where
  pos : R ≠ []
  len : R.length ≤ 9
  hi : ∀ h, h ∈ R → 0 ≤ h ∧ h ≤ 35
section
variable {R : List Int}
theorem ix_R {R : List Int} {i : Int} (h : i ∈ rngI R.length) : oIx [intsT R, .int i] = some (.int (R.getD i.toNat 0), false) := by
  have := mem_rngI.mp h
  exact oIx_intsT' this.1 this.2
/-- [(beat + one[beat]) % many for beat in range(many)] -/
theorem lands_lc (h : RP R) (s0 s1 s4 s5 s6 s7 s8 s9 s10 s11 s12 s13 s14 s15 s17 s18 s19 s20 s21 s22 : Slot) (o16 : Option Int) :
    eLc (itR1 (.pk 3)) [16] (gN 16) (tYs) (eOp oMod [.ev (eOp oAdd [.pk 16, .ev (eOp oIx [.pk 2, .pk 16])]), .pk 3]) [s0, s1, some (intsT R, Tg.fz), some (.int R.length, Tg.fz), s4, s5, s6, s7, s8, s9, s10, s11, s12, s13, s14, s15, oI? o16, s17, s18, s19, s20, s21, s22] =
    .ok (intsL (landV R), true, [s0, s1, some (intsT R, Tg.fz), some (.int R.length, Tg.fz), s4, s5, s6, s7, s8, s9, s10, s11, s12, s13, s14, s15, oI? o16, s17, s18, s19, s20, s21, s22]) := by
  have hp := lenp h.pos
  have hl := h.len
  rw [lc_ints (L := rngI R.length) (fun k => .int ((k + R.getD k.toNat 0) % R.length)) (e1 := [s0, s1, some (intsT R, Tg.fz), some (.int R.length, Tg.fz), s4, s5, s6, s7, s8, s9, s10, s11, s12, s13, s14, s15, oI? o16, s17, s18, s19, s20, s21, s22]) ?_ ?_ ?_ ?_ ?_]
  · rw [landV_rng]
    unfold intsL
    rw [List.map_map]
    rfl
  · rw [← rangeL_rng]
    simp -implicitDefEqProofs [r_evA0, r_evAe, r_evAp, r_eOp, r_eC, r_eV, r_eM, r_tOf, r_tAr, r_tAn, r_tOr, r_tNo, r_tYs, r_eIf, r_eAn, r_eOr, r_eNo, r_evV0, r_evVc, r_eMt, r_eMs, r_eMe, r_eCall, r_eCallI, r_sSeq0, r_sSeqc, r_gN, r_gTs0, r_gTsc, r_gT, r_sAsg, r_evO0, r_evOc, r_stA0, r_stAc, r_sPar, r_sEx, r_sAug, r_sPut, r_sRet, r_sIf, r_sPass, r_sCont, r_sRaise, r_eVs, r_itV, r_itR1, r_itR2, r_itE, muT, asB, truth, tyD_l, tyD_d, tyD_s, oLst, oTup, lim62_n (by omega : R.length ≤ 1000000)]
  · rw [calmC, calm0]; simp -implicitDefEqProofs [r_evA0, r_evAe, r_evAp, r_eOp, r_eC, r_eV, r_eM, r_tOf, r_tAr, r_tAn, r_tOr, r_tNo, r_tYs, r_eIf, r_eAn, r_eOr, r_eNo, r_evV0, r_evVc, r_eMt, r_eMs, r_eMe, r_eCall, r_eCallI, r_sSeq0, r_sSeqc, r_gN, r_gTs0, r_gTsc, r_gT, r_sAsg, r_evO0, r_evOc, r_stA0, r_stAc, r_sPar, r_sEx, r_sAug, r_sPut, r_sRet, r_sIf, r_sPass, r_sCont, r_sRaise, r_eVs, r_itV, r_itR1, r_itR2, r_itE, muT, asB, truth, tyD_l, tyD_d, tyD_s, oLst, oTup]
  · rw [rngI_len]; omega
  · intro i hi
    refine ⟨[s0, s1, some (intsT R, Tg.fz), some (.int R.length, Tg.fz), s4, s5, s6, s7, s8, s9, s10, s11, s12, s13, s14, s15, some (.int i, Tg.fz), s17, s18, s19, s20, s21, s22], false, [s0, s1, some (intsT R, Tg.fz), some (.int R.length, Tg.fz), s4, s5, s6, s7, s8, s9, s10, s11, s12, s13, s14, s15, some (.int i, Tg.fz), s17, s18, s19, s20, s21, s22], by simp -implicitDefEqProofs [r_evA0, r_evAe, r_evAp, r_eOp, r_eC, r_eV, r_eM, r_tOf, r_tAr, r_tAn, r_tOr, r_tNo, r_tYs, r_eIf, r_eAn, r_eOr, r_eNo, r_evV0, r_evVc, r_eMt, r_eMs, r_eMe, r_eCall, r_eCallI, r_sSeq0, r_sSeqc, r_gN, r_gTs0, r_gTsc, r_gT, r_sAsg, r_evO0, r_evOc, r_stA0, r_stAc, r_sPar, r_sEx, r_sAug, r_sPut, r_sRet, r_sIf, r_sPass, r_sCont, r_sRaise, r_eVs, r_itV, r_itR1, r_itR2, r_itE, muT, asB, truth, tyD_l, tyD_d, tyD_s, oLst, oTup, wipeE], by simp -implicitDefEqProofs [r_evA0, r_evAe, r_evAp, r_eOp, r_eC, r_eV, r_eM, r_tOf, r_tAr, r_tAn, r_tOr, r_tNo, r_tYs, r_eIf, r_eAn, r_eOr, r_eNo, r_evV0, r_evVc, r_eMt, r_eMs, r_eMe, r_eCall, r_eCallI, r_sSeq0, r_sSeqc, r_gN, r_gTs0, r_gTsc, r_gT, r_sAsg, r_evO0, r_evOc, r_stA0, r_stAc, r_sPar, r_sEx, r_sAug, r_sPut, r_sRet, r_sIf, r_sPass, r_sCont, r_sRaise, r_eVs, r_itV, r_itR1, r_itR2, r_itE, muT, asB, truth, tyD_l, tyD_d, tyD_s, oLst, oTup, ix_R hi, oMod_pos hp], rfl⟩
  · rfl
theorem src_lc (h : RP R) (s0 s1 s4 s5 s6 s7 s8 s9 s10 s11 s12 s13 s14 s15 s17 s18 s19 s20 s22 : Slot) (o16 : Option Int) :
    eLc (itR1 (.pk 3)) [16] (gN 16) (tYs) (eLc (itR1 (.pk 3)) [21] (gN 21) (tOf (eOp oEq [.ev (eOp oMod [.ev (eOp oAdd [.pk 21, .ev (eOp oIx [.pk 2, .pk 21])]), .pk 3]), .pk 16])) (eV 21)) [s0, s1, some (intsT R, Tg.fz), some (.int R.length, Tg.fz), s4, s5, s6, s7, s8, s9, s10, s11, s12, s13, s14, s15, oI? o16, s17, s18, s19, s20, none, s22] =
    .ok (.list (srcL R), true, [s0, s1, some (intsT R, Tg.fz), some (.int R.length, Tg.fz), s4, s5, s6, s7, s8, s9, s10, s11, s12, s13, s14, s15, oI? o16, s17, s18, s19, s20, none, s22]) := by
  have hp := lenp h.pos
  have hl := h.len
  refine lc_ints (L := rngI R.length) (fun b => intsL (srcV R b)) (e1 := [s0, s1, some (intsT R, Tg.fz), some (.int R.length, Tg.fz), s4, s5, s6, s7, s8, s9, s10, s11, s12, s13, s14, s15, oI? o16, s17, s18, s19, s20, none, s22]) ?_ ?_ ?_ ?_ ?_
  · rw [← rangeL_rng]
    simp -implicitDefEqProofs [r_evA0, r_evAe, r_evAp, r_eOp, r_eC, r_eV, r_eM, r_tOf, r_tAr, r_tAn, r_tOr, r_tNo, r_tYs, r_eIf, r_eAn, r_eOr, r_eNo, r_evV0, r_evVc, r_eMt, r_eMs, r_eMe, r_eCall, r_eCallI, r_sSeq0, r_sSeqc, r_gN, r_gTs0, r_gTsc, r_gT, r_sAsg, r_evO0, r_evOc, r_stA0, r_stAc, r_sPar, r_sEx, r_sAug, r_sPut, r_sRet, r_sIf, r_sPass, r_sCont, r_sRaise, r_eVs, r_itV, r_itR1, r_itR2, r_itE, muT, asB, truth, tyD_l, tyD_d, tyD_s, oLst, oTup, lim62_n (by omega : R.length ≤ 1000000)]
  · rw [calmC, calm0]; simp -implicitDefEqProofs [r_evA0, r_evAe, r_evAp, r_eOp, r_eC, r_eV, r_eM, r_tOf, r_tAr, r_tAn, r_tOr, r_tNo, r_tYs, r_eIf, r_eAn, r_eOr, r_eNo, r_evV0, r_evVc, r_eMt, r_eMs, r_eMe, r_eCall, r_eCallI, r_sSeq0, r_sSeqc, r_gN, r_gTs0, r_gTsc, r_gT, r_sAsg, r_evO0, r_evOc, r_stA0, r_stAc, r_sPar, r_sEx, r_sAug, r_sPut, r_sRet, r_sIf, r_sPass, r_sCont, r_sRaise, r_eVs, r_itV, r_itR1, r_itR2, r_itE, muT, asB, truth, tyD_l, tyD_d, tyD_s, oLst, oTup]
  · rw [rngI_len]; omega
  · intro b hb
    refine ⟨[s0, s1, some (intsT R, Tg.fz), some (.int R.length, Tg.fz), s4, s5, s6, s7, s8, s9, s10, s11, s12, s13, s14, s15, some (.int b, Tg.fz), s17, s18, s19, s20, none, s22], true, [s0, s1, some (intsT R, Tg.fz), some (.int R.length, Tg.fz), s4, s5, s6, s7, s8, s9, s10, s11, s12, s13, s14, s15, some (.int b, Tg.fz), s17, s18, s19, s20, none, s22], by simp -implicitDefEqProofs [r_evA0, r_evAe, r_evAp, r_eOp, r_eC, r_eV, r_eM, r_tOf, r_tAr, r_tAn, r_tOr, r_tNo, r_tYs, r_eIf, r_eAn, r_eOr, r_eNo, r_evV0, r_evVc, r_eMt, r_eMs, r_eMe, r_eCall, r_eCallI, r_sSeq0, r_sSeqc, r_gN, r_gTs0, r_gTsc, r_gT, r_sAsg, r_evO0, r_evOc, r_stA0, r_stAc, r_sPar, r_sEx, r_sAug, r_sPut, r_sRet, r_sIf, r_sPass, r_sCont, r_sRaise, r_eVs, r_itV, r_itR1, r_itR2, r_itE, muT, asB, truth, tyD_l, tyD_d, tyD_s, oLst, oTup, wipeE], ?_, rfl⟩
    refine (lc_intsF (L := rngI R.length) PyData.int (fun e => decide ((e + R.getD e.toNat 0) % R.length = b)) (e1 := [s0, s1, some (intsT R, Tg.fz), some (.int R.length, Tg.fz), s4, s5, s6, s7, s8, s9, s10, s11, s12, s13, s14, s15, some (.int b, Tg.fz), s17, s18, s19, s20, none, s22]) ?_ ?_ ?_ ?_ ?_)
    · rw [← rangeL_rng]
      simp -implicitDefEqProofs [r_evA0, r_evAe, r_evAp, r_eOp, r_eC, r_eV, r_eM, r_tOf, r_tAr, r_tAn, r_tOr, r_tNo, r_tYs, r_eIf, r_eAn, r_eOr, r_eNo, r_evV0, r_evVc, r_eMt, r_eMs, r_eMe, r_eCall, r_eCallI, r_sSeq0, r_sSeqc, r_gN, r_gTs0, r_gTsc, r_gT, r_sAsg, r_evO0, r_evOc, r_stA0, r_stAc, r_sPar, r_sEx, r_sAug, r_sPut, r_sRet, r_sIf, r_sPass, r_sCont, r_sRaise, r_eVs, r_itV, r_itR1, r_itR2, r_itE, muT, asB, truth, tyD_l, tyD_d, tyD_s, oLst, oTup, lim62_n (by omega : R.length ≤ 1000000)]
    · rw [calmC, calm0]; simp -implicitDefEqProofs [r_evA0, r_evAe, r_evAp, r_eOp, r_eC, r_eV, r_eM, r_tOf, r_tAr, r_tAn, r_tOr, r_tNo, r_tYs, r_eIf, r_eAn, r_eOr, r_eNo, r_evV0, r_evVc, r_eMt, r_eMs, r_eMe, r_eCall, r_eCallI, r_sSeq0, r_sSeqc, r_gN, r_gTs0, r_gTsc, r_gT, r_sAsg, r_evO0, r_evOc, r_stA0, r_stAc, r_sPar, r_sEx, r_sAug, r_sPut, r_sRet, r_sIf, r_sPass, r_sCont, r_sRaise, r_eVs, r_itV, r_itR1, r_itR2, r_itE, muT, asB, truth, tyD_l, tyD_d, tyD_s, oLst, oTup]
    · rw [rngI_len]; omega
    · intro i hi
      refine ⟨[s0, s1, some (intsT R, Tg.fz), some (.int R.length, Tg.fz), s4, s5, s6, s7, s8, s9, s10, s11, s12, s13, s14, s15, some (.int b, Tg.fz), s17, s18, s19, s20, some (.int i, Tg.fz), s22], by simp -implicitDefEqProofs [r_evA0, r_evAe, r_evAp, r_eOp, r_eC, r_eV, r_eM, r_tOf, r_tAr, r_tAn, r_tOr, r_tNo, r_tYs, r_eIf, r_eAn, r_eOr, r_eNo, r_evV0, r_evVc, r_eMt, r_eMs, r_eMe, r_eCall, r_eCallI, r_sSeq0, r_sSeqc, r_gN, r_gTs0, r_gTsc, r_gT, r_sAsg, r_evO0, r_evOc, r_stA0, r_stAc, r_sPar, r_sEx, r_sAug, r_sPut, r_sRet, r_sIf, r_sPass, r_sCont, r_sRaise, r_eVs, r_itV, r_itR1, r_itR2, r_itE, muT, asB, truth, tyD_l, tyD_d, tyD_s, oLst, oTup, wipeE], by simp -implicitDefEqProofs [r_evA0, r_evAe, r_evAp, r_eOp, r_eC, r_eV, r_eM, r_tOf, r_tAr, r_tAn, r_tOr, r_tNo, r_tYs, r_eIf, r_eAn, r_eOr, r_eNo, r_evV0, r_evVc, r_eMt, r_eMs, r_eMe, r_eCall, r_eCallI, r_sSeq0, r_sSeqc, r_gN, r_gTs0, r_gTsc, r_gT, r_sAsg, r_evO0, r_evOc, r_stA0, r_stAc, r_sPar, r_sEx, r_sAug, r_sPut, r_sRet, r_sIf, r_sPass, r_sCont, r_sRaise, r_eVs, r_itV, r_itR1, r_itR2, r_itE, muT, asB, truth, tyD_l, tyD_d, tyD_s, oLst, oTup, ix_R hi, oMod_pos hp], ⟨false, [s0, s1, some (intsT R, Tg.fz), some (.int R.length, Tg.fz), s4, s5, s6, s7, s8, s9, s10, s11, s12, s13, s14, s15, some (.int b, Tg.fz), s17, s18, s19, s20, some (.int i, Tg.fz), s22], by simp -implicitDefEqProofs [r_evA0, r_evAe, r_evAp, r_eOp, r_eC, r_eV, r_eM, r_tOf, r_tAr, r_tAn, r_tOr, r_tNo, r_tYs, r_eIf, r_eAn, r_eOr, r_eNo, r_evV0, r_evVc, r_eMt, r_eMs, r_eMe, r_eCall, r_eCallI, r_sSeq0, r_sSeqc, r_gN, r_gTs0, r_gTsc, r_gT, r_sAsg, r_evO0, r_evOc, r_stA0, r_stAc, r_sPar, r_sEx, r_sAug, r_sPut, r_sRet, r_sIf, r_sPass, r_sCont, r_sRaise, r_eVs, r_itV, r_itR1, r_itR2, r_itE, muT, asB, truth, tyD_l, tyD_d, tyD_s, oLst, oTup], rfl⟩, rfl⟩
    · rfl
  · rfl

theorem src_len (b : Int) : (srcV R b).length ≤ R.length := by
  have := List.length_filter_le (fun e : Int => decide ((e + R.getD e.toNat 0) % R.length = b)) (rngI R.length)
  rw [rngI_len] at this
  exact this
/-- [some[0] if len(some) > 0 else None for some in source] -/
theorem fst_lc (h : RP R) (s0 s1 s2 s3 s4 s5 s6 s7 s8 s9 s10 s12 s13 s14 s15 s16 s17 s18 s19 s20 s21 : Slot) :
    eLc (itV (eV 11)) [22] (gN 22) (tYs) (eIf (tOf (eOp oGt [.ev (eOp oLen [.pk 22]), .ev (eC (.int 0))])) (eOp oIx [.pk 22, .ev (eC (.int 0))]) (eC .none)) [s0, s1, s2, s3, s4, s5, s6, s7, s8, s9, s10, some (.list (srcL R), Tg.own), s12, s13, s14, s15, s16, s17, s18, s19, s20, s21, none] =
    .ok (.list (fstL R), true, [s0, s1, s2, s3, s4, s5, s6, s7, s8, s9, s10, some (.list (srcL R), Tg.fz), s12, s13, s14, s15, s16, s17, s18, s19, s20, s21, none]) := by
  have hl := h.len
  refine lc_eq (ds := srcL R) fstD (e1 := [s0, s1, s2, s3, s4, s5, s6, s7, s8, s9, s10, some (.list (srcL R), Tg.fz), s12, s13, s14, s15, s16, s17, s18, s19, s20, s21, none]) ?_ ?_ ?_ ?_ (by intro _; rfl) ?_
  · simp -implicitDefEqProofs [r_evA0, r_evAe, r_evAp, r_eOp, r_eC, r_eV, r_eM, r_tOf, r_tAr, r_tAn, r_tOr, r_tNo, r_tYs, r_eIf, r_eAn, r_eOr, r_eNo, r_evV0, r_evVc, r_eMt, r_eMs, r_eMe, r_eCall, r_eCallI, r_sSeq0, r_sSeqc, r_gN, r_gTs0, r_gTsc, r_gT, r_sAsg, r_evO0, r_evOc, r_stA0, r_stAc, r_sPar, r_sEx, r_sAug, r_sPut, r_sRet, r_sIf, r_sPass, r_sCont, r_sRaise, r_eVs, r_itV, r_itR1, r_itR2, r_itE, muT, asB, truth, tyD_l, tyD_d, tyD_s, oLst, oTup, itsOf]
  · rw [calmC, calm0]; simp -implicitDefEqProofs [r_evA0, r_evAe, r_evAp, r_eOp, r_eC, r_eV, r_eM, r_tOf, r_tAr, r_tAn, r_tOr, r_tNo, r_tYs, r_eIf, r_eAn, r_eOr, r_eNo, r_evV0, r_evVc, r_eMt, r_eMs, r_eMe, r_eCall, r_eCallI, r_sSeq0, r_sSeqc, r_gN, r_gTs0, r_gTsc, r_gT, r_sAsg, r_evO0, r_evOc, r_stA0, r_stAc, r_sPar, r_sEx, r_sAug, r_sPut, r_sRet, r_sIf, r_sPass, r_sCont, r_sRaise, r_eVs, r_itV, r_itR1, r_itR2, r_itE, muT, asB, truth, tyD_l, tyD_d, tyD_s, oLst, oTup]
  · unfold srcL; rw [List.length_map, rngI_len]; omega
  · intro d hd
    obtain ⟨b, hb, rfl⟩ := List.mem_map.mp hd
    generalize srcV R b = l
    refine ⟨[s0, s1, s2, s3, s4, s5, s6, s7, s8, s9, s10, some (.list (srcL R), Tg.fz), s12, s13, s14, s15, s16, s17, s18, s19, s20, s21, some (intsL l, Tg.fz)], false, [s0, s1, s2, s3, s4, s5, s6, s7, s8, s9, s10, some (.list (srcL R), Tg.fz), s12, s13, s14, s15, s16, s17, s18, s19, s20, s21, some (intsL l, Tg.fz)], by simp -implicitDefEqProofs [r_evA0, r_evAe, r_evAp, r_eOp, r_eC, r_eV, r_eM, r_tOf, r_tAr, r_tAn, r_tOr, r_tNo, r_tYs, r_eIf, r_eAn, r_eOr, r_eNo, r_evV0, r_evVc, r_eMt, r_eMs, r_eMe, r_eCall, r_eCallI, r_sSeq0, r_sSeqc, r_gN, r_gTs0, r_gTsc, r_gT, r_sAsg, r_evO0, r_evOc, r_stA0, r_stAc, r_sPar, r_sEx, r_sAug, r_sPut, r_sRet, r_sIf, r_sPass, r_sCont, r_sRaise, r_eVs, r_itV, r_itR1, r_itR2, r_itE, muT, asB, truth, tyD_l, tyD_d, tyD_s, oLst, oTup, wipeE], ?_, rfl⟩
    cases l with
    | nil => simp -implicitDefEqProofs [r_evA0, r_evAe, r_evAp, r_eOp, r_eC, r_eV, r_eM, r_tOf, r_tAr, r_tAn, r_tOr, r_tNo, r_tYs, r_eIf, r_eAn, r_eOr, r_eNo, r_evV0, r_evVc, r_eMt, r_eMs, r_eMe, r_eCall, r_eCallI, r_sSeq0, r_sSeqc, r_gN, r_gTs0, r_gTsc, r_gT, r_sAsg, r_evO0, r_evOc, r_stA0, r_stAc, r_sPar, r_sEx, r_sAug, r_sPut, r_sRet, r_sIf, r_sPass, r_sCont, r_sRaise, r_eVs, r_itV, r_itR1, r_itR2, r_itE, muT, asB, truth, tyD_l, tyD_d, tyD_s, oLst, oTup, oLen_ints, fstD, intsL]
    | cons x l =>
      have hx : oIx [intsL (x :: l), .int 0] = some (.int x, false) := oIx_list (by decide) rfl
      have hpos : (0 : Int) < (l.length : Int) + 1 := by omega
      simp -implicitDefEqProofs [r_evA0, r_evAe, r_evAp, r_eOp, r_eC, r_eV, r_eM, r_tOf, r_tAr, r_tAn, r_tOr, r_tNo, r_tYs, r_eIf, r_eAn, r_eOr, r_eNo, r_evV0, r_evVc, r_eMt, r_eMs, r_eMe, r_eCall, r_eCallI, r_sSeq0, r_sSeqc, r_gN, r_gTs0, r_gTsc, r_gT, r_sAsg, r_evO0, r_evOc, r_stA0, r_stAc, r_sPar, r_sEx, r_sAug, r_sPut, r_sRet, r_sIf, r_sPass, r_sCont, r_sRaise, r_eVs, r_itV, r_itR1, r_itR2, r_itE, muT, asB, truth, tyD_l, tyD_d, tyD_s, oLst, oTup, oLen_ints, hx, hpos]
      rfl
  · rfl
/-- [(height, len([k for k in one if k == height])) for height in sorted(set(one))] -/
theorem cnt_lc (h : RP R) (s0 s1 s3 s5 s6 s7 s8 s9 s10 s11 s12 s13 s14 s15 s16 s17 s19 s20 s21 s22 : Slot) (o4 o18 : Option Int) :
    eLc (itV (eOp oSSet [.pk 2])) [18] (gN 18) (tYs) (eVs oTup [eV 18, eOp oLen [.ev (eLc (itV (eV 2)) [4] (gN 4) (tOf (eOp oEq [.pk 4, .pk 18])) (eV 4))]]) [s0, s1, some (intsT R, Tg.fz), s3, oI? o4, s5, s6, s7, s8, s9, s10, s11, s12, s13, s14, s15, s16, s17, oI? o18, s19, s20, s21, s22] =
    .ok (.list ((ssort R).map (prI (cntV R))), true, [s0, s1, some (intsT R, Tg.fz), s3, oI? o4, s5, s6, s7, s8, s9, s10, s11, s12, s13, s14, s15, s16, s17, oI? o18, s19, s20, s21, s22]) := by
  have hl := h.len
  have hsl : (ssort R).length ≤ 16777216 := by
    have := ssort_len R
    omega
  refine lc_ints (L := ssort R) (prI (cntV R)) (e1 := [s0, s1, some (intsT R, Tg.fz), s3, oI? o4, s5, s6, s7, s8, s9, s10, s11, s12, s13, s14, s15, s16, s17, oI? o18, s19, s20, s21, s22]) ?_ ?_ hsl ?_ ?_
  · simp -implicitDefEqProofs [r_evA0, r_evAe, r_evAp, r_eOp, r_eC, r_eV, r_eM, r_tOf, r_tAr, r_tAn, r_tOr, r_tNo, r_tYs, r_eIf, r_eAn, r_eOr, r_eNo, r_evV0, r_evVc, r_eMt, r_eMs, r_eMe, r_eCall, r_eCallI, r_sSeq0, r_sSeqc, r_gN, r_gTs0, r_gTsc, r_gT, r_sAsg, r_evO0, r_evOc, r_stA0, r_stAc, r_sPar, r_sEx, r_sAug, r_sPut, r_sRet, r_sIf, r_sPass, r_sCont, r_sRaise, r_eVs, r_itV, r_itR1, r_itR2, r_itE, muT, asB, truth, tyD_l, tyD_d, tyD_s, oLst, oTup, oSSet_ok (by omega : R.length < 63), itsOf_ints]
  · rw [calmC, calm0]; simp -implicitDefEqProofs [r_evA0, r_evAe, r_evAp, r_eOp, r_eC, r_eV, r_eM, r_tOf, r_tAr, r_tAn, r_tOr, r_tNo, r_tYs, r_eIf, r_eAn, r_eOr, r_eNo, r_evV0, r_evVc, r_eMt, r_eMs, r_eMe, r_eCall, r_eCallI, r_sSeq0, r_sSeqc, r_gN, r_gTs0, r_gTsc, r_gT, r_sAsg, r_evO0, r_evOc, r_stA0, r_stAc, r_sPar, r_sEx, r_sAug, r_sPut, r_sRet, r_sIf, r_sPass, r_sCont, r_sRaise, r_eVs, r_itV, r_itR1, r_itR2, r_itE, muT, asB, truth, tyD_l, tyD_d, tyD_s, oLst, oTup]
  · intro b hb
    refine ⟨[s0, s1, some (intsT R, Tg.fz), s3, oI? o4, s5, s6, s7, s8, s9, s10, s11, s12, s13, s14, s15, s16, s17, some (.int b, Tg.fz), s19, s20, s21, s22], false, [s0, s1, some (intsT R, Tg.fz), s3, oI? o4, s5, s6, s7, s8, s9, s10, s11, s12, s13, s14, s15, s16, s17, some (.int b, Tg.fz), s19, s20, s21, s22], by simp -implicitDefEqProofs [r_evA0, r_evAe, r_evAp, r_eOp, r_eC, r_eV, r_eM, r_tOf, r_tAr, r_tAn, r_tOr, r_tNo, r_tYs, r_eIf, r_eAn, r_eOr, r_eNo, r_evV0, r_evVc, r_eMt, r_eMs, r_eMe, r_eCall, r_eCallI, r_sSeq0, r_sSeqc, r_gN, r_gTs0, r_gTsc, r_gT, r_sAsg, r_evO0, r_evOc, r_stA0, r_stAc, r_sPar, r_sEx, r_sAug, r_sPut, r_sRet, r_sIf, r_sPass, r_sCont, r_sRaise, r_eVs, r_itV, r_itR1, r_itR2, r_itE, muT, asB, truth, tyD_l, tyD_d, tyD_s, oLst, oTup, wipeE], ?_, rfl⟩
    have hi := (lc_intsF (it := itV (eV 2)) (vs := [4]) (g := gN 4) (t := tOf (eOp oEq [.pk 4, .pk 18])) (f := eV 4) (e := [s0, s1, some (intsT R, Tg.fz), s3, oI? o4, s5, s6, s7, s8, s9, s10, s11, s12, s13, s14, s15, s16, s17, some (.int b, Tg.fz), s19, s20, s21, s22]) (L := R) PyData.int (fun k => decide (k = b)) (e1 := [s0, s1, some (intsT R, Tg.fz), s3, oI? o4, s5, s6, s7, s8, s9, s10, s11, s12, s13, s14, s15, s16, s17, some (.int b, Tg.fz), s19, s20, s21, s22]) ?_ ?_ ?_ ?_ ?_)
    · simp -implicitDefEqProofs [r_evA0, r_evAe, r_evAp, r_eOp, r_eC, r_eV, r_eM, r_tOf, r_tAr, r_tAn, r_tOr, r_tNo, r_tYs, r_eIf, r_eAn, r_eOr, r_eNo, r_evV0, r_evVc, r_eMt, r_eMs, r_eMe, r_eCall, r_eCallI, r_sSeq0, r_sSeqc, r_gN, r_gTs0, r_gTsc, r_gT, r_sAsg, r_evO0, r_evOc, r_stA0, r_stAc, r_sPar, r_sEx, r_sAug, r_sPut, r_sRet, r_sIf, r_sPass, r_sCont, r_sRaise, r_eVs, r_itV, r_itR1, r_itR2, r_itE, muT, asB, truth, tyD_l, tyD_d, tyD_s, oLst, oTup, hi]
      rfl
    · simp -implicitDefEqProofs [r_evA0, r_evAe, r_evAp, r_eOp, r_eC, r_eV, r_eM, r_tOf, r_tAr, r_tAn, r_tOr, r_tNo, r_tYs, r_eIf, r_eAn, r_eOr, r_eNo, r_evV0, r_evVc, r_eMt, r_eMs, r_eMe, r_eCall, r_eCallI, r_sSeq0, r_sSeqc, r_gN, r_gTs0, r_gTsc, r_gT, r_sAsg, r_evO0, r_evOc, r_stA0, r_stAc, r_sPar, r_sEx, r_sAug, r_sPut, r_sRet, r_sIf, r_sPass, r_sCont, r_sRaise, r_eVs, r_itV, r_itR1, r_itR2, r_itE, muT, asB, truth, tyD_l, tyD_d, tyD_s, oLst, oTup, itsOf_intsT]
    · rw [calmC, calm0]; simp -implicitDefEqProofs [r_evA0, r_evAe, r_evAp, r_eOp, r_eC, r_eV, r_eM, r_tOf, r_tAr, r_tAn, r_tOr, r_tNo, r_tYs, r_eIf, r_eAn, r_eOr, r_eNo, r_evV0, r_evVc, r_eMt, r_eMs, r_eMe, r_eCall, r_eCallI, r_sSeq0, r_sSeqc, r_gN, r_gTs0, r_gTsc, r_gT, r_sAsg, r_evO0, r_evOc, r_stA0, r_stAc, r_sPar, r_sEx, r_sAug, r_sPut, r_sRet, r_sIf, r_sPass, r_sCont, r_sRaise, r_eVs, r_itV, r_itR1, r_itR2, r_itE, muT, asB, truth, tyD_l, tyD_d, tyD_s, oLst, oTup]
    · omega
    · intro i hi
      refine ⟨[s0, s1, some (intsT R, Tg.fz), s3, some (.int i, Tg.fz), s5, s6, s7, s8, s9, s10, s11, s12, s13, s14, s15, s16, s17, some (.int b, Tg.fz), s19, s20, s21, s22], by simp -implicitDefEqProofs [r_evA0, r_evAe, r_evAp, r_eOp, r_eC, r_eV, r_eM, r_tOf, r_tAr, r_tAn, r_tOr, r_tNo, r_tYs, r_eIf, r_eAn, r_eOr, r_eNo, r_evV0, r_evVc, r_eMt, r_eMs, r_eMe, r_eCall, r_eCallI, r_sSeq0, r_sSeqc, r_gN, r_gTs0, r_gTsc, r_gT, r_sAsg, r_evO0, r_evOc, r_stA0, r_stAc, r_sPar, r_sEx, r_sAug, r_sPut, r_sRet, r_sIf, r_sPass, r_sCont, r_sRaise, r_eVs, r_itV, r_itR1, r_itR2, r_itE, muT, asB, truth, tyD_l, tyD_d, tyD_s, oLst, oTup, wipeE], by simp -implicitDefEqProofs [r_evA0, r_evAe, r_evAp, r_eOp, r_eC, r_eV, r_eM, r_tOf, r_tAr, r_tAn, r_tOr, r_tNo, r_tYs, r_eIf, r_eAn, r_eOr, r_eNo, r_evV0, r_evVc, r_eMt, r_eMs, r_eMe, r_eCall, r_eCallI, r_sSeq0, r_sSeqc, r_gN, r_gTs0, r_gTsc, r_gT, r_sAsg, r_evO0, r_evOc, r_stA0, r_stAc, r_sPar, r_sEx, r_sAug, r_sPut, r_sRet, r_sIf, r_sPass, r_sCont, r_sRaise, r_eVs, r_itV, r_itR1, r_itR2, r_itE, muT, asB, truth, tyD_l, tyD_d, tyD_s, oLst, oTup], ⟨false, [s0, s1, some (intsT R, Tg.fz), s3, some (.int i, Tg.fz), s5, s6, s7, s8, s9, s10, s11, s12, s13, s14, s15, s16, s17, some (.int b, Tg.fz), s19, s20, s21, s22], by simp -implicitDefEqProofs [r_evA0, r_evAe, r_evAp, r_eOp, r_eC, r_eV, r_eM, r_tOf, r_tAr, r_tAn, r_tOr, r_tNo, r_tYs, r_eIf, r_eAn, r_eOr, r_eNo, r_evV0, r_evVc, r_eMt, r_eMs, r_eMe, r_eCall, r_eCallI, r_sSeq0, r_sSeqc, r_gN, r_gTs0, r_gTsc, r_gT, r_sAsg, r_evO0, r_evOc, r_stA0, r_stAc, r_sPar, r_sEx, r_sAug, r_sPut, r_sRet, r_sIf, r_sPass, r_sCont, r_sRaise, r_eVs, r_itV, r_itR1, r_itR2, r_itE, muT, asB, truth, tyD_l, tyD_d, tyD_s, oLst, oTup], rfl⟩, rfl⟩
    · rfl
  · rfl
/-- where balls come from, if none is dropped -/
theorem src_one (J : Jug R) : (((rngI R.length).map fun b => intsL (srcV R b)).map fstD) = (movV (landV R) R.length R.length).map PyData.int := by
  apply List.ext_getElem?
  intro i
  by_cases hi : i < R.length
  · obtain ⟨s, hs, h⟩ := J.src i
    have hn : (i : Int) % R.length = i := Int.emod_eq_of_lt (by omega) (by omega)
    rw [hn] at h
    have e1 : srcV R i = [(s : Int)] := by
      unfold srcV rngI
      rw [List.filter_map]
      have : (List.range R.length).filter ((fun e : Int => decide ((e + R.getD e.toNat 0) % R.length = i)) ∘ fun k : Nat => (k : Int)) = [s] := by
        refine filter_one hs fun j hj => ?_
        show decide (((j : Int) + R.getD (j : Int).toNat 0) % R.length = i) = true ↔ j = s
        rw [decide_eq_true_iff, Int.toNat_natCast]
        constructor
        · intro e
          exact J.inj hj hs (e.trans h.symm)
        · rintro rfl; exact h
      rw [this]; rfl
    rw [List.getElem?_map, List.getElem?_map, List.getElem?_map, show (rngI R.length)[i]? = some (i : Int) by unfold rngI; simp [hi]]
    have := jug_moves J hs h
    rw [Int.toNat_natCast] at this
    rw [this]
    simp only [Option.map_some, e1]
    rfl
  · rw [List.getElem?_eq_none (by rw [List.length_map, List.length_map, rngI_len]; omega), List.getElem?_eq_none (by rw [List.length_map, movV_len]; omega)]
end
end Py
end
section
set_option linter.all false
namespace Py
open PySem L2
def lawBody : List SV := [sAsg (gN 3) (eOp oLen [.pk 2]), sAsg (gN 9) (eCall m__law_clash [eV 2]), sIf (tOr (tOf (eOp oIsNot [.ev (eCall m_is_row [eV 2]), .ev (eC (.bool true))])) (tOr (tOf (eOp oNe [.ev (eCall m_landings [eV 2]), .ev (eLc (itR1 (.pk 3)) [16] (gN 16) (tYs) (eOp oMod [.ev (eOp oAdd [.pk 16, .ev (eOp oIx [.pk 2, .pk 16])]), .pk 3]))])) (tOf (eOp oNe [.ev (eCall m_clash [eV 2]), .pk 9])))) (sSeq [sRet (eC (.bool false))]) (sSeq []), sAsg (gN 10) (eCall m_can_be_juggled [eV 2]), sIf (tOr (tNo (tAr (.ev (eOp (oIsa "bool") [.pk 10])))) (tOf (eOp oNe [.pk 10, .ev (eOp oIs [.pk 9, .ev (eC .none)])]))) (sSeq [sRet (eC (.bool false))]) (sSeq []), sAsg (gN 11) (eLc (itR1 (.pk 3)) [16] (gN 16) (tYs) (eLc (itR1 (.pk 3)) [21] (gN 21) (tOf (eOp oEq [.ev (eOp oMod [.ev (eOp oAdd [.pk 21, .ev (eOp oIx [.pk 2, .pk 21])]), .pk 3]), .pk 16])) (eV 21))), sAsg (gN 12) (eVs oLst [eOp oDiv [.ev (eOp oSum [.pk 2]), .pk 3], eC .none, eLc (itV (eV 11)) [22] (gN 22) (tYs) (eIf (tOf (eOp oGt [.ev (eOp oLen [.pk 22]), .ev (eC (.int 0))])) (eOp oIx [.pk 22, .ev (eC (.int 0))]) (eC .none))]), sFor (itR1 (.ev (eC (.int 3)))) (gN 13) (sSeq [sIf (tOf (eOp oNe [.ev (eCall m__law_told [eV 2, eV 13]), .ev (eIf (tOf (eOp oIs [.pk 9, .ev (eC .none)])) (eOp oIx [.pk 12, .pk 13]) (eVs oLst [eC (.str "dropped"), eOp oIx [.pk 9, .ev (eC (.int 1))], eC (.bool true)]))])) (sSeq [sRet (eC (.bool false))]) (sSeq [])]), sIf (tOr (tOf (eOp oNe [.ev (eCall m_average [eV 2]), .ev (eCall m__law_fraction [eOp oSum [.pk 2], eV 3])])) (tOr (tOf (eOp oNe [.ev (eCall m_mean_is_whole [eV 2]), .ev (eOp oEq [.ev (eOp oMod [.ev (eOp oSum [.pk 2]), .pk 3]), .ev (eC (.int 0))])])) (tOf (eOp oNe [.ev (eCall m_greatest [eV 2]), .ev (eOp oMax [.pk 2])])))) (sSeq [sRet (eC (.bool false))]) (sSeq []), sIf (tOf (eOp oNe [.ev (eCall m_counts_of [eV 2]), .ev (eLc (itV (eOp oSSet [.pk 2])) [18] (gN 18) (tYs) (eVs oTup [eV 18, eOp oLen [.ev (eLc (itV (eV 2)) [4] (gN 4) (tOf (eOp oEq [.pk 4, .pk 18])) (eV 4))]]))])) (sSeq [sRet (eC (.bool false))]) (sSeq []), sAsg (gN 14) (eVs oLst []), sAsg (gN 15) (eVs oLst []), sFor (itR1 (.pk 3)) (gN 16) (sSeq [sAsg (gN 18) (eOp oIx [.pk 2, .pk 16]), sFor (itR1 (.pk 3)) (gN 4) (sSeq [sIf (tOf (eOp oIn [.ev (eOp oMod [.ev (eOp oAdd [.pk 16, .pk 18]), .pk 3]), .pk 15])) (sSeq [sAsg (gN 18) (eOp oAdd [.pk 18, .ev (eC (.int 1))])]) (sSeq [])]), sEx (eMt "list" 15 mAppend [eOp oMod [.ev (eOp oAdd [.pk 16, .pk 18]), .pk 3]]), sEx (eMt "list" 14 mAppend [eV 18])]), sIf (tOr (tOf (eOp oNe [.ev (eCall m_put_right [eV 2]), .ev (eOp oTuple [.pk 14])])) (tOf (eOp oIsNot [.ev (eCall m__law_clash [eOp oTuple [.pk 14]]), .ev (eC .none)]))) (sSeq [sRet (eC (.bool false))]) (sSeq [])]
def dueD (R : List Int) : PyData := .list [.int (R.sum / R.length), .none, .list (fstL R)]

theorem deeds_ok {R : List Int} (h : RP R) {d : PyData} (hcl : m_clash [intsT R] = .ret d false .none) (hci : clashIs (landV R) d) {ns row : List Int} {a : Int} {A B : List Int} {x11 : PyData} {o4 o13 o16 o18 : Option Int} {c10 : Option PyData} {j14 j15 : Option (PyData × Bool)} {Q : Fl → Prop} {X : String → PyData → Prop}
    (hQ : ∀ o13 : Option Int, Q (.nx [some (intsL ns, Tg.fz), some (boxV row a, Tg.own), some (intsT R, Tg.fz), some (.int R.length, Tg.fz), oI? o4, none, none, some (intsT A, Tg.fz), some (intsT B, Tg.fz), some (d, Tg.fz), cS c10, some (x11, Tg.fz), some ((dueD R), Tg.own), oI? o13, jS j14, jS j15, oI? o16, none, oI? o18, none, none, none, none])) : wp (sFor (itR1 (.ev (eC (.int 3)))) (gN 13) (sSeq [sIf (tOf (eOp oNe [.ev (eCall m__law_told [eV 2, eV 13]), .ev (eIf (tOf (eOp oIs [.pk 9, .ev (eC .none)])) (eOp oIx [.pk 12, .pk 13]) (eVs oLst [eC (.str "dropped"), eOp oIx [.pk 9, .ev (eC (.int 1))], eC (.bool true)]))])) (sSeq [sRet (eC (.bool false))]) (sSeq [])]) [some (intsL ns, Tg.fz), some (boxV row a, Tg.own), some (intsT R, Tg.fz), some (.int R.length, Tg.fz), oI? o4, none, none, some (intsT A, Tg.fz), some (intsT B, Tg.fz), some (d, Tg.fz), cS c10, some (x11, Tg.fz), some ((dueD R), Tg.own), oI? o13, jS j14, jS j15, oI? o16, none, oI? o18, none, none, none, none]) Q X := by

  have hp := lenp h.pos
  have hl := h.len
  refine wp_for (ds := rangeL 0 3) (by (simp -implicitDefEqProofs [r_evA0, r_evAe, r_evAp, r_eOp, r_eC, r_eV, r_eM, r_tOf, r_tAr, r_tAn, r_tOr, r_tNo, r_tYs, r_eIf, r_eAn, r_eOr, r_eNo, r_evV0, r_evVc, r_eMt, r_eMs, r_eMe, r_eCall, r_eCallI, r_sSeq0, r_sSeqc, r_gN, r_gTs0, r_gTsc, r_gT, r_sAsg, r_evO0, r_evOc, r_stA0, r_stAc, r_sPar, r_sEx, r_sAug, r_sPut, r_sRet, r_sIf, r_sPass, r_sCont, r_sRaise, r_eVs, r_itV, r_itR1, r_itR2, r_itE, muT, asB, truth, tyD_l, tyD_d, tyD_s, oLst, oTup, lim62] <;> first | rfl | exact ⟨rfl, rfl⟩)) (fun k e => ∃ o13 : Option Int, e = [some (intsL ns, Tg.fz), some (boxV row a, Tg.own), some (intsT R, Tg.fz), some (.int R.length, Tg.fz), oI? o4, none, none, some (intsT A, Tg.fz), some (intsT B, Tg.fz), some (d, Tg.fz), cS c10, some (x11, Tg.fz), some ((dueD R), Tg.own), oI? o13, jS j14, jS j15, oI? o16, none, oI? o18, none, none, none, none]) ⟨o13, rfl⟩ ?_ (fun e ⟨o13, he⟩ => by subst he; exact hQ o13)
  rintro k z e hd ⟨o13, rfl⟩
  obtain ⟨hk, rfl⟩ := range_get hd
  refine ⟨[some (intsL ns, Tg.fz), some (boxV row a, Tg.own), some (intsT R, Tg.fz), some (.int R.length, Tg.fz), oI? o4, none, none, some (intsT A, Tg.fz), some (intsT B, Tg.fz), some (d, Tg.fz), cS c10, some (x11, Tg.fz), some ((dueD R), Tg.own), some (.int k, Tg.fz), jS j14, jS j15, oI? o16, none, oI? o18, none, none, none, none], by simp -implicitDefEqProofs [r_evA0, r_evAe, r_evAp, r_eOp, r_eC, r_eV, r_eM, r_tOf, r_tAr, r_tAn, r_tOr, r_tNo, r_tYs, r_eIf, r_eAn, r_eOr, r_eNo, r_evV0, r_evVc, r_eMt, r_eMs, r_eMe, r_eCall, r_eCallI, r_sSeq0, r_sSeqc, r_gN, r_gTs0, r_gTsc, r_gT, r_sAsg, r_evO0, r_evOc, r_stA0, r_stAc, r_sPar, r_sEx, r_sAug, r_sPut, r_sRet, r_sIf, r_sPass, r_sCont, r_sRaise, r_eVs, r_itV, r_itR1, r_itR2, r_itE, muT, asB, truth, tyD_l, tyD_d, tyD_s, oLst, oTup], ?_⟩

  rw [wp_seq]
  rcases hci with ⟨i, j, hij, rfl⟩ | ⟨hnd, rfl⟩
  · have hj : j < 100 := by have := hij.2.1; rw [landV_len] at this; omega
    have hv : Fl' 3 (.list [.str "dropped", .int j, .bool true]) := fl_list (n := 2) fun d hd => by
      simp only [List.mem_cons, List.not_mem_nil, or_false] at hd
      rcases hd with rfl | rfl | rfl
      · exact ⟨by decide +kernel, Nat.zero_le _⟩
      · exact fl_int
      · exact fl_bool
    have hn := oNe_self hv (by decide : 3 ≤ 64)
    ((conv => arg 1; simp -implicitDefEqProofs [r_evA0, r_evAe, r_evAp, r_eOp, r_eC, r_eV, r_eM, r_tOf, r_tAr, r_tAn, r_tOr, r_tNo, r_tYs, r_eIf, r_eAn, r_eOr, r_eNo, r_evV0, r_evVc, r_eMt, r_eMs, r_eMe, r_eCall, r_eCallI, r_sSeq0, r_sSeqc, r_gN, r_gTs0, r_gTsc, r_gT, r_sAsg, r_evO0, r_evOc, r_stA0, r_stAc, r_sPar, r_sEx, r_sAug, r_sPut, r_sRet, r_sIf, r_sPass, r_sCont, r_sRaise, r_eVs, r_itV, r_itR1, r_itR2, r_itE, muT, asB, truth, tyD_l, tyD_d, tyD_s, oLst, oTup, told_some hj hcl hk, oIs_none, isNone_tup, oIx_pair1, hn]); rw [wp_ok])
    show wp (sSeq [] _) _ _
    rw [wp_nil]
    exact ⟨some k, rfl⟩
  · match k, hk with
    | 0, _ =>
      have hx : oIx [(dueD R), .int 0] = some (.int (R.sum / R.length), false) := oIx_list (by decide) rfl
      ((conv => arg 1; simp -implicitDefEqProofs [r_evA0, r_evAe, r_evAp, r_eOp, r_eC, r_eV, r_eM, r_tOf, r_tAr, r_tAn, r_tOr, r_tNo, r_tYs, r_eIf, r_eAn, r_eOr, r_eNo, r_evV0, r_evVc, r_eMt, r_eMs, r_eMe, r_eCall, r_eCallI, r_sSeq0, r_sSeqc, r_gN, r_gTs0, r_gTsc, r_gT, r_sAsg, r_evO0, r_evOc, r_stA0, r_stAc, r_sPar, r_sEx, r_sAug, r_sPut, r_sRet, r_sIf, r_sPass, r_sCont, r_sRaise, r_eVs, r_itV, r_itR1, r_itR2, r_itE, muT, asB, truth, tyD_l, tyD_d, tyD_s, oLst, oTup, told0 h.pos (by omega) hcl, oIs_none, isNone_none, hx]); rw [wp_ok])
      show wp (sSeq [] _) _ _
      rw [wp_nil]
      exact ⟨some (0 : Nat), rfl⟩
    | 1, _ =>
      have hx : oIx [(dueD R), .int 1] = some (.none, false) := oIx_list (by decide) rfl
      have hn := oNe_self (fl_none (n := 0)) (by decide : 0 ≤ 64)
      ((conv => arg 1; simp -implicitDefEqProofs [r_evA0, r_evAe, r_evAp, r_eOp, r_eC, r_eV, r_eM, r_tOf, r_tAr, r_tAn, r_tOr, r_tNo, r_tYs, r_eIf, r_eAn, r_eOr, r_eNo, r_evV0, r_evVc, r_eMt, r_eMs, r_eMe, r_eCall, r_eCallI, r_sSeq0, r_sSeqc, r_gN, r_gTs0, r_gTsc, r_gT, r_sAsg, r_evO0, r_evOc, r_stA0, r_stAc, r_sPar, r_sEx, r_sAug, r_sPut, r_sRet, r_sIf, r_sPass, r_sCont, r_sRaise, r_eVs, r_itV, r_itR1, r_itR2, r_itE, muT, asB, truth, tyD_l, tyD_d, tyD_s, oLst, oTup, told1 hcl, oIs_none, isNone_none, hx, hn]); rw [wp_ok])
      show wp (sSeq [] _) _ _
      rw [wp_nil]
      exact ⟨some (1 : Nat), rfl⟩
    | 2, _ =>
      have J : Jug R := ⟨h.pos, h.hi, nd_iff.mpr hnd⟩
      have hx : oIx [dueD R, .int 2] = some (intsL (movV (landV R) R.length R.length), false) := oIx_list (by decide) (by show some (PyData.list (fstL R)) = _; rw [show fstL R = _ from src_one J]; rfl)
      have hn := oNe_self (fl_ints (n := 0) (L := movV (landV R) R.length R.length)) (by decide : 0 + 1 ≤ 64)
      ((conv => arg 1; simp -implicitDefEqProofs [r_evA0, r_evAe, r_evAp, r_eOp, r_eC, r_eV, r_eM, r_tOf, r_tAr, r_tAn, r_tOr, r_tNo, r_tYs, r_eIf, r_eAn, r_eOr, r_eNo, r_evV0, r_evVc, r_eMt, r_eMs, r_eMe, r_eCall, r_eCallI, r_sSeq0, r_sSeqc, r_gN, r_gTs0, r_gTsc, r_gT, r_sAsg, r_evO0, r_evOc, r_stA0, r_stAc, r_sPar, r_sEx, r_sAug, r_sPut, r_sRet, r_sIf, r_sPass, r_sCont, r_sRaise, r_eVs, r_itV, r_itR1, r_itR2, r_itE, muT, asB, truth, tyD_l, tyD_d, tyD_s, oLst, oTup, told2 h.pos (by omega) hcl, oIs_none, isNone_none, hx, hn]); rw [wp_ok])
      show wp (sSeq [] _) _ _
      rw [wp_nil]
      exact ⟨some (2 : Nat), rfl⟩

theorem up_ok {R : List Int} (h : RP R) {k : Nat} {T M : List Int} {ns row : List Int} {a F h0 : Int} {A B : List Int} {o4 o13 : Option Int} {c9 c10 : Option PyData} {j11 j12 : Option (PyData × Bool)} {Q : Fl → Prop} {X : String → PyData → Prop} (hF : upN (takP R.length T k) R.length h0 = F)
    (hQ : ∀ o4 : Option Int, Q (.nx [some (intsL ns, Tg.fz), some (boxV row a, Tg.own), some (intsT R, Tg.fz), some (.int R.length, Tg.fz), oI? o4, none, none, some (intsT A, Tg.fz), some (intsT B, Tg.fz), cS c9, cS c10, jS j11, jS j12, oI? o13, some (intsL M, Tg.own), some (intsL T, Tg.own), some (.int k, Tg.fz), none, some (.int F, Tg.fz), none, none, none, none])) : wp (sFor (itR1 (.pk 3)) (gN 4) (sSeq [sIf (tOf (eOp oIn [.ev (eOp oMod [.ev (eOp oAdd [.pk 16, .pk 18]), .pk 3]), .pk 15])) (sSeq [sAsg (gN 18) (eOp oAdd [.pk 18, .ev (eC (.int 1))])]) (sSeq [])]) [some (intsL ns, Tg.fz), some (boxV row a, Tg.own), some (intsT R, Tg.fz), some (.int R.length, Tg.fz), oI? o4, none, none, some (intsT A, Tg.fz), some (intsT B, Tg.fz), cS c9, cS c10, jS j11, jS j12, oI? o13, some (intsL M, Tg.own), some (intsL T, Tg.own), some (.int k, Tg.fz), none, some (.int h0, Tg.fz), none, none, none, none]) Q X := by
  have hp := lenp h.pos
  have hl := h.len
  refine wp_for (ds := rangeL 0 R.length) (by (simp -implicitDefEqProofs [r_evA0, r_evAe, r_evAp, r_eOp, r_eC, r_eV, r_eM, r_tOf, r_tAr, r_tAn, r_tOr, r_tNo, r_tYs, r_eIf, r_eAn, r_eOr, r_eNo, r_evV0, r_evVc, r_eMt, r_eMs, r_eMe, r_eCall, r_eCallI, r_sSeq0, r_sSeqc, r_gN, r_gTs0, r_gTsc, r_gT, r_sAsg, r_evO0, r_evOc, r_stA0, r_stAc, r_sPar, r_sEx, r_sAug, r_sPut, r_sRet, r_sIf, r_sPass, r_sCont, r_sRaise, r_eVs, r_itV, r_itR1, r_itR2, r_itE, muT, asB, truth, tyD_l, tyD_d, tyD_s, oLst, oTup, lim62_n (by omega : R.length ≤ 1000000)] <;> first | rfl | exact ⟨rfl, rfl⟩)) (fun j e => ∃ (o4 : Option Int) (h' : Int), e = [some (intsL ns, Tg.fz), some (boxV row a, Tg.own), some (intsT R, Tg.fz), some (.int R.length, Tg.fz), oI? o4, none, none, some (intsT A, Tg.fz), some (intsT B, Tg.fz), cS c9, cS c10, jS j11, jS j12, oI? o13, some (intsL M, Tg.own), some (intsL T, Tg.own), some (.int k, Tg.fz), none, some (.int h', Tg.fz), none, none, none, none] ∧ upN (takP R.length T k) (R.length - j) h' = F) ⟨o4, h0, rfl, hF⟩ ?_ ?_
  · rintro j z e hd ⟨o4, h', rfl, hu⟩
    obtain ⟨hj, rfl⟩ := range_get hd
    refine ⟨[some (intsL ns, Tg.fz), some (boxV row a, Tg.own), some (intsT R, Tg.fz), some (.int R.length, Tg.fz), some (.int j, Tg.fz), none, none, some (intsT A, Tg.fz), some (intsT B, Tg.fz), cS c9, cS c10, jS j11, jS j12, oI? o13, some (intsL M, Tg.own), some (intsL T, Tg.own), some (.int k, Tg.fz), none, some (.int h', Tg.fz), none, none, none, none], by simp -implicitDefEqProofs [r_evA0, r_evAe, r_evAp, r_eOp, r_eC, r_eV, r_eM, r_tOf, r_tAr, r_tAn, r_tOr, r_tNo, r_tYs, r_eIf, r_eAn, r_eOr, r_eNo, r_evV0, r_evVc, r_eMt, r_eMs, r_eMe, r_eCall, r_eCallI, r_sSeq0, r_sSeqc, r_gN, r_gTs0, r_gTsc, r_gT, r_sAsg, r_evO0, r_evOc, r_stA0, r_stAc, r_sPar, r_sEx, r_sAug, r_sPut, r_sRet, r_sIf, r_sPass, r_sCont, r_sRaise, r_eVs, r_itV, r_itR1, r_itR2, r_itE, muT, asB, truth, tyD_l, tyD_d, tyD_s, oLst, oTup], ?_⟩
    obtain ⟨m, hm⟩ : ∃ m, R.length - j = m + 1 := ⟨R.length - j - 1, by omega⟩
    have hm2 : R.length - (j + 1) = m := by omega
    rw [hm] at hu
    rw [hm2, wp_seq]
    cases hb : takP R.length T k h' with
    | true =>
      have hb2 : (decide (((k : Int) + h') % R.length ∈ T)) = true := hb
      ((conv => arg 1; simp -implicitDefEqProofs [r_evA0, r_evAe, r_evAp, r_eOp, r_eC, r_eV, r_eM, r_tOf, r_tAr, r_tAn, r_tOr, r_tNo, r_tYs, r_eIf, r_eAn, r_eOr, r_eNo, r_evV0, r_evVc, r_eMt, r_eMs, r_eMe, r_eCall, r_eCallI, r_sSeq0, r_sSeqc, r_gN, r_gTs0, r_gTsc, r_gT, r_sAsg, r_evO0, r_evOc, r_stA0, r_stAc, r_sPar, r_sEx, r_sAug, r_sPut, r_sRet, r_sIf, r_sPass, r_sCont, r_sRaise, r_eVs, r_itV, r_itR1, r_itR2, r_itE, muT, asB, truth, tyD_l, tyD_d, tyD_s, oLst, oTup, oMod_pos hp, oIn_ints, hb2]); rw [wp_ok])
      show wp (sSeq [] _) _ _
      rw [wp_nil]
      exact ⟨some j, h' + 1, rfl, by rw [upN_go hb] at hu; exact hu⟩
    | false =>
      have hb2 : (decide (((k : Int) + h') % R.length ∈ T)) = false := hb
      ((conv => arg 1; simp -implicitDefEqProofs [r_evA0, r_evAe, r_evAp, r_eOp, r_eC, r_eV, r_eM, r_tOf, r_tAr, r_tAn, r_tOr, r_tNo, r_tYs, r_eIf, r_eAn, r_eOr, r_eNo, r_evV0, r_evVc, r_eMt, r_eMs, r_eMe, r_eCall, r_eCallI, r_sSeq0, r_sSeqc, r_gN, r_gTs0, r_gTsc, r_gT, r_sAsg, r_evO0, r_evOc, r_stA0, r_stAc, r_sPar, r_sEx, r_sAug, r_sPut, r_sRet, r_sIf, r_sPass, r_sCont, r_sRaise, r_eVs, r_itV, r_itR1, r_itR2, r_itE, muT, asB, truth, tyD_l, tyD_d, tyD_s, oLst, oTup, oMod_pos hp, oIn_ints, hb2]); rw [wp_ok])
      show wp (sSeq [] _) _ _
      rw [wp_nil]
      exact ⟨some j, h', rfl, by rw [upN_stop hb] at hu ⊢; exact hu⟩
  · rintro e ⟨o4, h', rfl, hu⟩
    have : R.length - (rangeL 0 R.length).length = 0 := by simp [rangeL]
    rw [this, upN] at hu
    subst hu
    exact hQ o4

theorem made_ok {R : List Int} (h : RP R) {ns row : List Int} {a : Int} {A B : List Int} {o4 o13 o16 o18 : Option Int} {c9 c10 : Option PyData} {j11 j12 : Option (PyData × Bool)} {Q : Fl → Prop} {X : String → PyData → Prop}
    (hQ : ∀ o4 o16 o18 : Option Int, Q (.nx [some (intsL ns, Tg.fz), some (boxV row a, Tg.own), some (intsT R, Tg.fz), some (.int R.length, Tg.fz), oI? o4, none, none, some (intsT A, Tg.fz), some (intsT B, Tg.fz), cS c9, cS c10, jS j11, jS j12, oI? o13, some (intsL (madeV R R.length), Tg.own), some (intsL (landN R.length (madeV R R.length)), Tg.own), oI? o16, none, oI? o18, none, none, none, none])) : wp (sFor (itR1 (.pk 3)) (gN 16) (sSeq [sAsg (gN 18) (eOp oIx [.pk 2, .pk 16]), sFor (itR1 (.pk 3)) (gN 4) (sSeq [sIf (tOf (eOp oIn [.ev (eOp oMod [.ev (eOp oAdd [.pk 16, .pk 18]), .pk 3]), .pk 15])) (sSeq [sAsg (gN 18) (eOp oAdd [.pk 18, .ev (eC (.int 1))])]) (sSeq [])]), sEx (eMt "list" 15 mAppend [eOp oMod [.ev (eOp oAdd [.pk 16, .pk 18]), .pk 3]]), sEx (eMt "list" 14 mAppend [eV 18])]) [some (intsL ns, Tg.fz), some (boxV row a, Tg.own), some (intsT R, Tg.fz), some (.int R.length, Tg.fz), oI? o4, none, none, some (intsT A, Tg.fz), some (intsT B, Tg.fz), cS c9, cS c10, jS j11, jS j12, oI? o13, some (intsL (madeV R 0), Tg.own), some (intsL (landN R.length (madeV R 0)), Tg.own), oI? o16, none, oI? o18, none, none, none, none]) Q X := by
  have hp := lenp h.pos
  have hl := h.len
  refine wp_for (ds := rangeL 0 R.length) (by (simp -implicitDefEqProofs [r_evA0, r_evAe, r_evAp, r_eOp, r_eC, r_eV, r_eM, r_tOf, r_tAr, r_tAn, r_tOr, r_tNo, r_tYs, r_eIf, r_eAn, r_eOr, r_eNo, r_evV0, r_evVc, r_eMt, r_eMs, r_eMe, r_eCall, r_eCallI, r_sSeq0, r_sSeqc, r_gN, r_gTs0, r_gTsc, r_gT, r_sAsg, r_evO0, r_evOc, r_stA0, r_stAc, r_sPar, r_sEx, r_sAug, r_sPut, r_sRet, r_sIf, r_sPass, r_sCont, r_sRaise, r_eVs, r_itV, r_itR1, r_itR2, r_itE, muT, asB, truth, tyD_l, tyD_d, tyD_s, oLst, oTup, lim62_n (by omega : R.length ≤ 1000000)] <;> first | rfl | exact ⟨rfl, rfl⟩)) (fun k e => ∃ (o4 o16 o18 : Option Int), e = [some (intsL ns, Tg.fz), some (boxV row a, Tg.own), some (intsT R, Tg.fz), some (.int R.length, Tg.fz), oI? o4, none, none, some (intsT A, Tg.fz), some (intsT B, Tg.fz), cS c9, cS c10, jS j11, jS j12, oI? o13, some (intsL (madeV R k), Tg.own), some (intsL (landN R.length (madeV R k)), Tg.own), oI? o16, none, oI? o18, none, none, none, none]) ⟨o4, o16, o18, rfl⟩ ?_ ?_
  · rintro k z e hd ⟨o4, o16, o18, rfl⟩
    obtain ⟨hk, rfl⟩ := range_get hd
    have hk0 : R[k]? = some (R.getD k 0) := by rw [List.getD_eq_getElem?_getD, List.getElem?_eq_getElem hk]; rfl
    have hml := madeV_len (R := R) (k := k) (by omega)
    have hland := madeV_land hk0
    have hmade := madeV_succ hk0
    have hix := ix_R (R := R) (i := k) (mem_rngI.mpr ⟨by omega, by omega⟩)
    rw [Int.toNat_natCast] at hix
    rw [hml] at hmade
    generalize R.getD k 0 = h0 at hland hmade hix
    generalize hF : upN (takP R.length (landN R.length (madeV R k)) k) R.length h0 = F at hland hmade
    rw [hland, hmade]
    have hTl : (landN R.length (madeV R k)).length = k := by rw [landN_len, hml]
    generalize landN R.length (madeV R k) = T at hF hTl
    generalize madeV R k = M at hml
    refine ⟨[some (intsL ns, Tg.fz), some (boxV row a, Tg.own), some (intsT R, Tg.fz), some (.int R.length, Tg.fz), oI? o4, none, none, some (intsT A, Tg.fz), some (intsT B, Tg.fz), cS c9, cS c10, jS j11, jS j12, oI? o13, some (intsL M, Tg.own), some (intsL T, Tg.own), some (.int k, Tg.fz), none, oI? o18, none, none, none, none], by simp -implicitDefEqProofs [r_evA0, r_evAe, r_evAp, r_eOp, r_eC, r_eV, r_eM, r_tOf, r_tAr, r_tAn, r_tOr, r_tNo, r_tYs, r_eIf, r_eAn, r_eOr, r_eNo, r_evV0, r_evVc, r_eMt, r_eMs, r_eMe, r_eCall, r_eCallI, r_sSeq0, r_sSeqc, r_gN, r_gTs0, r_gTsc, r_gT, r_sAsg, r_evO0, r_evOc, r_stA0, r_stAc, r_sPar, r_sEx, r_sAug, r_sPut, r_sRet, r_sIf, r_sPass, r_sCont, r_sRaise, r_eVs, r_itV, r_itR1, r_itR2, r_itE, muT, asB, truth, tyD_l, tyD_d, tyD_s, oLst, oTup], ?_⟩
    (rw [wp_seq]; (conv => arg 1; simp -implicitDefEqProofs [r_evA0, r_evAe, r_evAp, r_eOp, r_eC, r_eV, r_eM, r_tOf, r_tAr, r_tAn, r_tOr, r_tNo, r_tYs, r_eIf, r_eAn, r_eOr, r_eNo, r_evV0, r_evVc, r_eMt, r_eMs, r_eMe, r_eCall, r_eCallI, r_sSeq0, r_sSeqc, r_gN, r_gTs0, r_gTsc, r_gT, r_sAsg, r_evO0, r_evOc, r_stA0, r_stAc, r_sPar, r_sEx, r_sAug, r_sPut, r_sRet, r_sIf, r_sPass, r_sCont, r_sRaise, r_eVs, r_itV, r_itR1, r_itR2, r_itE, muT, asB, truth, tyD_l, tyD_d, tyD_s, oLst, oTup, hix]); rw [wp_nx])
    rw [wp_seq]
    refine up_ok h hF fun o4 => ?_
    rw [seqK_nx]
    (rw [wp_seq]; (conv => arg 1; simp -implicitDefEqProofs [r_evA0, r_evAe, r_evAp, r_eOp, r_eC, r_eV, r_eM, r_tOf, r_tAr, r_tAn, r_tOr, r_tNo, r_tYs, r_eIf, r_eAn, r_eOr, r_eNo, r_evV0, r_evVc, r_eMt, r_eMs, r_eMe, r_eCall, r_eCallI, r_sSeq0, r_sSeqc, r_gN, r_gTs0, r_gTsc, r_gT, r_sAsg, r_evO0, r_evOc, r_stA0, r_stAc, r_sPar, r_sEx, r_sAug, r_sPut, r_sRet, r_sIf, r_sPass, r_sCont, r_sRaise, r_eVs, r_itV, r_itR1, r_itR2, r_itE, muT, asB, truth, tyD_l, tyD_d, tyD_s, oLst, oTup, oMod_pos hp, mAppend_int (by omega : T.length < 16777216)]); rw [wp_nx])
    rw [wp_seq]
    ((conv => arg 1; simp -implicitDefEqProofs [r_evA0, r_evAe, r_evAp, r_eOp, r_eC, r_eV, r_eM, r_tOf, r_tAr, r_tAn, r_tOr, r_tNo, r_tYs, r_eIf, r_eAn, r_eOr, r_eNo, r_evV0, r_evVc, r_eMt, r_eMs, r_eMe, r_eCall, r_eCallI, r_sSeq0, r_sSeqc, r_gN, r_gTs0, r_gTsc, r_gT, r_sAsg, r_evO0, r_evOc, r_stA0, r_stAc, r_sPar, r_sEx, r_sAug, r_sPut, r_sRet, r_sIf, r_sPass, r_sCont, r_sRaise, r_eVs, r_itV, r_itR1, r_itR2, r_itE, muT, asB, truth, tyD_l, tyD_d, tyD_s, oLst, oTup, mAppend_int (by omega : M.length < 16777216)]); rw [wp_ok])
    show wp (sSeq [] _) _ _
    rw [wp_nil]
    exact ⟨o4, some k, some F, rfl⟩
  · rintro e ⟨o4, o16, o18, rfl⟩
    have : (rangeL 0 R.length).length = R.length := by simp [rangeL]
    rw [this]
    exact hQ o4 o16 o18

set_option maxRecDepth 10000 in
theorem body_ok {R : List Int} (h : RP R) (hs0 : ∃ s : Nat, R.sum = s ∧ s ≤ 100000) {ns row : List Int} {a : Int} {A B : List Int} {o3 o4 o13 o16 o18 : Option Int} {c9 c10 : Option PyData} {j11 j12 j14 j15 : Option (PyData × Bool)} {P : Nv → Prop} {Q : Fl → Prop} {X : String → PyData → Prop}
    (hP : ∀ (o3 o4 o13 o16 o18 : Option Int) (c9 c10 : Option PyData) (j11 j12 j14 j15 : Option (PyData × Bool)), P [some (intsL ns, Tg.fz), some (boxV row a, Tg.own), some (intsT R, Tg.fz), oI? o3, oI? o4, none, none, some (intsT A, Tg.fz), some (intsT B, Tg.fz), cS c9, cS c10, jS j11, jS j12, oI? o13, jS j14, jS j15, oI? o16, none, oI? o18, none, none, none, none]) : wp (sSeq lawBody [some (intsL ns, Tg.fz), some (boxV row a, Tg.own), some (intsT R, Tg.fz), oI? o3, oI? o4, none, none, some (intsT A, Tg.fz), some (intsT B, Tg.fz), cS c9, cS c10, jS j11, jS j12, oI? o13, jS j14, jS j15, oI? o16, none, oI? o18, none, none, none, none]) (goOn P Q) X := by
  have hp := lenp h.pos
  have hl := h.len
  obtain ⟨d, hcl, hci⟩ := clash_ok h.pos (by omega : R.length ≤ 1000000)
  obtain ⟨d', hlc, hci'⟩ := lawclash_ok h.pos (by omega : R.length ≤ 1000000)
  have hdd := clashIs_one hci' hci
  subst hdd
  have hland := landings_ok h.pos (by omega : R.length ≤ 16777216)
  have hlne := oNe_intsL (landV R) (landV R)
  have hdne := oNe_self (clashIs_fl hci) (by decide : 1 ≤ 64)
  unfold lawBody
  (rw [wp_seq]; (conv => arg 1; simp -implicitDefEqProofs [r_evA0, r_evAe, r_evAp, r_eOp, r_eC, r_eV, r_eM, r_tOf, r_tAr, r_tAn, r_tOr, r_tNo, r_tYs, r_eIf, r_eAn, r_eOr, r_eNo, r_evV0, r_evVc, r_eMt, r_eMs, r_eMe, r_eCall, r_eCallI, r_sSeq0, r_sSeqc, r_gN, r_gTs0, r_gTsc, r_gT, r_sAsg, r_evO0, r_evOc, r_stA0, r_stAc, r_sPar, r_sEx, r_sAug, r_sPut, r_sRet, r_sIf, r_sPass, r_sCont, r_sRaise, r_eVs, r_itV, r_itR1, r_itR2, r_itE, muT, asB, truth, tyD_l, tyD_d, tyD_s, oLst, oTup, oLen_intsT]); rw [wp_nx])
  (rw [wp_seq]; (conv => arg 1; simp -implicitDefEqProofs [r_evA0, r_evAe, r_evAp, r_eOp, r_eC, r_eV, r_eM, r_tOf, r_tAr, r_tAn, r_tOr, r_tNo, r_tYs, r_eIf, r_eAn, r_eOr, r_eNo, r_evV0, r_evVc, r_eMt, r_eMs, r_eMe, r_eCall, r_eCallI, r_sSeq0, r_sSeqc, r_gN, r_gTs0, r_gTsc, r_gT, r_sAsg, r_evO0, r_evOc, r_stA0, r_stAc, r_sPar, r_sEx, r_sAug, r_sPut, r_sRet, r_sIf, r_sPass, r_sCont, r_sRaise, r_eVs, r_itV, r_itR1, r_itR2, r_itE, muT, asB, truth, tyD_l, tyD_d, tyD_s, oLst, oTup, hlc]); rw [wp_nx])
  (rw [wp_seq]; (conv => arg 1; simp -implicitDefEqProofs [r_evA0, r_evAe, r_evAp, r_eOp, r_eC, r_eV, r_eM, r_tOf, r_tAr, r_tAn, r_tOr, r_tNo, r_tYs, r_eIf, r_eAn, r_eOr, r_eNo, r_evV0, r_evVc, r_eMt, r_eMs, r_eMe, r_eCall, r_eCallI, r_sSeq0, r_sSeqc, r_gN, r_gTs0, r_gTsc, r_gT, r_sAsg, r_evO0, r_evOc, r_stA0, r_stAc, r_sPar, r_sEx, r_sAug, r_sPut, r_sRet, r_sIf, r_sPass, r_sCont, r_sRaise, r_eVs, r_itV, r_itR1, r_itR2, r_itE, muT, asB, truth, tyD_l, tyD_d, tyD_s, oLst, oTup, is_row_ok h.pos (by omega) h.hi, hland, lands_lc h, oIsNot_b, hlne, hcl, hdne]); rw [wp_nx])
  (rw [wp_seq]; (conv => arg 1; simp -implicitDefEqProofs [r_evA0, r_evAe, r_evAp, r_eOp, r_eC, r_eV, r_eM, r_tOf, r_tAr, r_tAn, r_tOr, r_tNo, r_tYs, r_eIf, r_eAn, r_eOr, r_eNo, r_evV0, r_evVc, r_eMt, r_eMs, r_eMe, r_eCall, r_eCallI, r_sSeq0, r_sSeqc, r_gN, r_gTs0, r_gTsc, r_gT, r_sAsg, r_evO0, r_evOc, r_stA0, r_stAc, r_sPar, r_sEx, r_sAug, r_sPut, r_sRet, r_sIf, r_sPass, r_sCont, r_sRaise, r_eVs, r_itV, r_itR1, r_itR2, r_itE, muT, asB, truth, tyD_l, tyD_d, tyD_s, oLst, oTup, can_ok hcl]); rw [wp_nx])
  (rw [wp_seq]; (conv => arg 1; simp -implicitDefEqProofs [r_evA0, r_evAe, r_evAp, r_eOp, r_eC, r_eV, r_eM, r_tOf, r_tAr, r_tAn, r_tOr, r_tNo, r_tYs, r_eIf, r_eAn, r_eOr, r_eNo, r_evV0, r_evVc, r_eMt, r_eMs, r_eMe, r_eCall, r_eCallI, r_sSeq0, r_sSeqc, r_gN, r_gTs0, r_gTsc, r_gT, r_sAsg, r_evO0, r_evOc, r_stA0, r_stAc, r_sPar, r_sEx, r_sAug, r_sPut, r_sRet, r_sIf, r_sPass, r_sCont, r_sRaise, r_eVs, r_itV, r_itR1, r_itR2, r_itE, muT, asB, truth, tyD_l, tyD_d, tyD_s, oLst, oTup, oIsa_bool, oIs_none]); rw [wp_nx])
  (rw [wp_seq]; (conv => arg 1; simp -implicitDefEqProofs [r_evA0, r_evAe, r_evAp, r_eOp, r_eC, r_eV, r_eM, r_tOf, r_tAr, r_tAn, r_tOr, r_tNo, r_tYs, r_eIf, r_eAn, r_eOr, r_eNo, r_evV0, r_evVc, r_eMt, r_eMs, r_eMe, r_eCall, r_eCallI, r_sSeq0, r_sSeqc, r_gN, r_gTs0, r_gTsc, r_gT, r_sAsg, r_evO0, r_evOc, r_stA0, r_stAc, r_sPar, r_sEx, r_sAug, r_sPut, r_sRet, r_sIf, r_sPass, r_sCont, r_sRaise, r_eVs, r_itV, r_itR1, r_itR2, r_itE, muT, asB, truth, tyD_l, tyD_d, tyD_s, oLst, oTup, src_lc h]); rw [wp_nx])
  have hdue : oLst [.int (R.sum / R.length), .none, .list (fstL R)] = some (dueD R, true) := rfl
  (rw [wp_seq]; (conv => arg 1; simp -implicitDefEqProofs [r_evA0, r_evAe, r_evAp, r_eOp, r_eC, r_eV, r_eM, r_tOf, r_tAr, r_tAn, r_tOr, r_tNo, r_tYs, r_eIf, r_eAn, r_eOr, r_eNo, r_evV0, r_evVc, r_eMt, r_eMs, r_eMe, r_eCall, r_eCallI, r_sSeq0, r_sSeqc, r_gN, r_gTs0, r_gTsc, r_gT, r_sAsg, r_evO0, r_evOc, r_stA0, r_stAc, r_sPar, r_sEx, r_sAug, r_sPut, r_sRet, r_sIf, r_sPass, r_sCont, r_sRaise, r_eVs, r_itV, r_itR1, r_itR2, r_itE, muT, asB, truth, tyD_l, tyD_d, tyD_s, oLst, oTup, oSum_intsT, oDiv_pos hp (by omega : (R.length : Int) < 1073741824), fst_lc h, hdue]); rw [wp_nx])
  rw [wp_seq]
  refine deeds_ok (c10 := some _) h hcl hci fun o13 => ?_
  rw [seqK_nx]
  obtain ⟨s, hs1, hs2⟩ := hs0
  have hg : Fl' 1 (.tuple [.int (s / Nat.gcd s R.length), .int (R.length / Nat.gcd s R.length)]) := fl_tup fun d hd => by
    simp only [List.mem_cons, List.not_mem_nil, or_false] at hd
    rcases hd with rfl | rfl
    · exact fl_int
    · exact fl_int
  have hgne := oNe_self hg (by decide : 1 ≤ 64)
  (rw [wp_seq]; (conv => arg 1; simp -implicitDefEqProofs [r_evA0, r_evAe, r_evAp, r_eOp, r_eC, r_eV, r_eM, r_tOf, r_tAr, r_tAn, r_tOr, r_tNo, r_tYs, r_eIf, r_eAn, r_eOr, r_eNo, r_evV0, r_evVc, r_eMt, r_eMs, r_eMe, r_eCall, r_eCallI, r_sSeq0, r_sSeqc, r_gN, r_gTs0, r_gTsc, r_gT, r_sAsg, r_evO0, r_evOc, r_stA0, r_stAc, r_sPar, r_sEx, r_sAug, r_sPut, r_sRet, r_sIf, r_sPass, r_sCont, r_sRaise, r_eVs, r_itV, r_itR1, r_itR2, r_itE, muT, asB, truth, tyD_l, tyD_d, tyD_s, oLst, oTup, average_ok h.pos (by omega) hs1 hs2, oSum_intsT, hs1, fraction_ok (x := s) (y := R.length) (by omega) (by omega), hgne, mean_ok h.pos, oMod_pos hp, greatest_ok h.pos, oMax_intsT h.pos]); rw [wp_nx])
  have hc1 : Fl' 2 (.list ((ssort R).map (prI (cntV R)))) := fl_list fun d hd => by
    obtain ⟨i, _, rfl⟩ := List.mem_map.mp hd
    refine fl_tup fun d hd => ?_
    simp only [List.mem_cons, List.not_mem_nil, or_false] at hd
    rcases hd with rfl | rfl
    · exact fl_int
    · exact fl_int
  have hcne := oNe_self hc1 (by decide : 2 ≤ 64)
  (rw [wp_seq]; (conv => arg 1; simp -implicitDefEqProofs [r_evA0, r_evAe, r_evAp, r_eOp, r_eC, r_eV, r_eM, r_tOf, r_tAr, r_tAn, r_tOr, r_tNo, r_tYs, r_eIf, r_eAn, r_eOr, r_eNo, r_evV0, r_evVc, r_eMt, r_eMs, r_eMe, r_eCall, r_eCallI, r_sSeq0, r_sSeqc, r_gN, r_gTs0, r_gTsc, r_gT, r_sAsg, r_evO0, r_evOc, r_stA0, r_stAc, r_sPar, r_sEx, r_sAug, r_sPut, r_sRet, r_sIf, r_sPass, r_sCont, r_sRaise, r_eVs, r_itV, r_itR1, r_itR2, r_itE, muT, asB, truth, tyD_l, tyD_d, tyD_s, oLst, oTup, counts_ok (by omega : R.length ≤ 1000), cnt_lc h, hcne]); rw [wp_nx])
  (rw [wp_seq]; (conv => arg 1; simp -implicitDefEqProofs [r_evA0, r_evAe, r_evAp, r_eOp, r_eC, r_eV, r_eM, r_tOf, r_tAr, r_tAn, r_tOr, r_tNo, r_tYs, r_eIf, r_eAn, r_eOr, r_eNo, r_evV0, r_evVc, r_eMt, r_eMs, r_eMe, r_eCall, r_eCallI, r_sSeq0, r_sSeqc, r_gN, r_gTs0, r_gTsc, r_gT, r_sAsg, r_evO0, r_evOc, r_stA0, r_stAc, r_sPar, r_sEx, r_sAug, r_sPut, r_sRet, r_sIf, r_sPass, r_sCont, r_sRaise, r_eVs, r_itV, r_itR1, r_itR2, r_itE, muT, asB, truth, tyD_l, tyD_d, tyD_s, oLst, oTup]); rw [wp_nx])
  (rw [wp_seq]; (conv => arg 1; simp -implicitDefEqProofs [r_evA0, r_evAe, r_evAp, r_eOp, r_eC, r_eV, r_eM, r_tOf, r_tAr, r_tAn, r_tOr, r_tNo, r_tYs, r_eIf, r_eAn, r_eOr, r_eNo, r_evV0, r_evVc, r_eMt, r_eMs, r_eMe, r_eCall, r_eCallI, r_sSeq0, r_sSeqc, r_gN, r_gTs0, r_gTsc, r_gT, r_sAsg, r_evO0, r_evOc, r_stA0, r_stAc, r_sPar, r_sEx, r_sAug, r_sPut, r_sRet, r_sIf, r_sPass, r_sCont, r_sRaise, r_eVs, r_itV, r_itR1, r_itR2, r_itE, muT, asB, truth, tyD_l, tyD_d, tyD_s, oLst, oTup]); rw [wp_nx])
  rw [wp_seq]
  refine made_ok (c9 := some _) (c10 := some _) (j11 := some (_, false)) (j12 := some (_, true)) h fun o4 o16 o18 => ?_
  rw [seqK_nx]
  have hMl := madeV_len (R := R) (k := R.length) (Nat.le_refl _)
  have hM0 : madeV R R.length ≠ [] := fun z => by rw [z] at hMl; simp at hMl; omega
  have hnd := madeV_nodup (R := R) (k := R.length) (Nat.le_refl _)
  have hpr := put_right_ok h.pos (by omega : R.length ≤ 1000)
  generalize madeV R R.length = M at *
  obtain ⟨d2, hlc2, hci2⟩ := lawclash_ok hM0 (by omega : M.length ≤ 1000000)
  have hd2 : d2 = .none := by
    refine clashIs_one hci2 (.inr ⟨nd_iff.mp ?_, rfl⟩)
    have : landV M = landN R.length M := by rw [← hMl]; rfl
    rw [this]; exact hnd
  subst hd2
  have ht : oTuple [intsL M] = some (intsT M, false) := rfl
  have hmne := oNe_intsT M M
  rw [wp_seq]
  ((conv => arg 1; simp -implicitDefEqProofs [r_evA0, r_evAe, r_evAp, r_eOp, r_eC, r_eV, r_eM, r_tOf, r_tAr, r_tAn, r_tOr, r_tNo, r_tYs, r_eIf, r_eAn, r_eOr, r_eNo, r_evV0, r_evVc, r_eMt, r_eMs, r_eMe, r_eCall, r_eCallI, r_sSeq0, r_sSeqc, r_gN, r_gTs0, r_gTsc, r_gT, r_sAsg, r_evO0, r_evOc, r_stA0, r_stAc, r_sPar, r_sEx, r_sAug, r_sPut, r_sRet, r_sIf, r_sPass, r_sCont, r_sRaise, r_eVs, r_itV, r_itR1, r_itR2, r_itE, muT, asB, truth, tyD_l, tyD_d, tyD_s, oLst, oTup, hpr, ht, hmne, hlc2, oIsNot_none, isNone_none]); rw [wp_ok])
  show wp (sSeq [] _) _ _
  rw [wp_nil]
  exact hP (some _) o4 o13 o16 o18 (some _) (some _) (some (_, false)) (some (_, true)) (some (_, true)) (some (_, true))

end Py
end
section
set_option linter.all false
namespace Py
open PySem L2
variable {R : List Int}
theorem back_lc (h0 : R ≠ []) (s0 s1 s2 s4 s5 s6 s8 s9 s10 s11 s12 s13 s14 s15 s17 s18 s20 s21 s22 : Slot) (b : Int) : eLc (itR1 (.ev (eC (.int 36)))) [19] (gN 19) (tOf (eOp oEq [.ev (eOp oIx [.pk 7, .ev (eOp oMod [.ev (eOp oSub [.pk 16, .pk 19]), .pk 3])]), .pk 19])) (eV 19) [s0, s1, s2, some (.int R.length, Tg.fz), s4, s5, s6, some (intsT R, Tg.fz), s8, s9, s10, s11, s12, s13, s14, s15, some (.int b, Tg.fz), s17, s18, none, s20, s21, s22] = .ok (intsL ((rngI 36).filter fun j => decide (rowV R (b - j) = j)), true, [s0, s1, s2, some (.int R.length, Tg.fz), s4, s5, s6, some (intsT R, Tg.fz), s8, s9, s10, s11, s12, s13, s14, s15, some (.int b, Tg.fz), s17, s18, none, s20, s21, s22]) := by
  have hp := lenp h0
  refine lc_intsF (L := rngI 36) PyData.int (fun j => decide (rowV R (b - j) = j)) (e1 := [s0, s1, s2, some (.int R.length, Tg.fz), s4, s5, s6, some (intsT R, Tg.fz), s8, s9, s10, s11, s12, s13, s14, s15, some (.int b, Tg.fz), s17, s18, none, s20, s21, s22]) ?_ ?_ ?_ ?_ ?_
  · rw [← rangeL_rng]
    (simp -implicitDefEqProofs [r_evA0, r_evAe, r_evAp, r_eOp, r_eC, r_eV, r_eM, r_tOf, r_tAr, r_tAn, r_tOr, r_tNo, r_tYs, r_eIf, r_eAn, r_eOr, r_eNo, r_evV0, r_evVc, r_eMt, r_eMs, r_eMe, r_eCall, r_eCallI, r_sSeq0, r_sSeqc, r_gN, r_gTs0, r_gTsc, r_gT, r_sAsg, r_evO0, r_evOc, r_stA0, r_stAc, r_sPar, r_sEx, r_sAug, r_sPut, r_sRet, r_sIf, r_sPass, r_sCont, r_sRaise, r_eVs, r_itV, r_itR1, r_itR2, r_itE, muT, asB, truth, tyD_l, tyD_d, tyD_s, oLst, oTup, lim62] <;> first | rfl | exact ⟨rfl, rfl⟩)
  · rw [calmC, calm0]; simp -implicitDefEqProofs [r_evA0, r_evAe, r_evAp, r_eOp, r_eC, r_eV, r_eM, r_tOf, r_tAr, r_tAn, r_tOr, r_tNo, r_tYs, r_eIf, r_eAn, r_eOr, r_eNo, r_evV0, r_evVc, r_eMt, r_eMs, r_eMe, r_eCall, r_eCallI, r_sSeq0, r_sSeqc, r_gN, r_gTs0, r_gTsc, r_gT, r_sAsg, r_evO0, r_evOc, r_stA0, r_stAc, r_sPar, r_sEx, r_sAug, r_sPut, r_sRet, r_sIf, r_sPass, r_sCont, r_sRaise, r_eVs, r_itV, r_itR1, r_itR2, r_itE, muT, asB, truth, tyD_l, tyD_d, tyD_s, oLst, oTup]
  · rw [rngI_len]; decide
  · intro i hi
    refine ⟨[s0, s1, s2, some (.int R.length, Tg.fz), s4, s5, s6, some (intsT R, Tg.fz), s8, s9, s10, s11, s12, s13, s14, s15, some (.int b, Tg.fz), s17, s18, some (.int i, Tg.fz), s20, s21, s22], by simp -implicitDefEqProofs [r_evA0, r_evAe, r_evAp, r_eOp, r_eC, r_eV, r_eM, r_tOf, r_tAr, r_tAn, r_tOr, r_tNo, r_tYs, r_eIf, r_eAn, r_eOr, r_eNo, r_evV0, r_evVc, r_eMt, r_eMs, r_eMe, r_eCall, r_eCallI, r_sSeq0, r_sSeqc, r_gN, r_gTs0, r_gTsc, r_gT, r_sAsg, r_evO0, r_evOc, r_stA0, r_stAc, r_sPar, r_sEx, r_sAug, r_sPut, r_sRet, r_sIf, r_sPass, r_sCont, r_sRaise, r_eVs, r_itV, r_itR1, r_itR2, r_itE, muT, asB, truth, tyD_l, tyD_d, tyD_s, oLst, oTup, wipeE], by simp -implicitDefEqProofs [r_evA0, r_evAe, r_evAp, r_eOp, r_eC, r_eV, r_eM, r_tOf, r_tAr, r_tAn, r_tOr, r_tNo, r_tYs, r_eIf, r_eAn, r_eOr, r_eNo, r_evV0, r_evVc, r_eMt, r_eMs, r_eMe, r_eCall, r_eCallI, r_sSeq0, r_sSeqc, r_gN, r_gTs0, r_gTsc, r_gT, r_sAsg, r_evO0, r_evOc, r_stA0, r_stAc, r_sPar, r_sEx, r_sAug, r_sPut, r_sRet, r_sIf, r_sPass, r_sCont, r_sRaise, r_eVs, r_itV, r_itR1, r_itR2, r_itE, muT, asB, truth, tyD_l, tyD_d, tyD_s, oLst, oTup, row_ix h0, oMod_pos hp], ⟨false, [s0, s1, s2, some (.int R.length, Tg.fz), s4, s5, s6, some (intsT R, Tg.fz), s8, s9, s10, s11, s12, s13, s14, s15, some (.int b, Tg.fz), s17, s18, some (.int i, Tg.fz), s20, s21, s22], by simp -implicitDefEqProofs [r_evA0, r_evAe, r_evAp, r_eOp, r_eC, r_eV, r_eM, r_tOf, r_tAr, r_tAn, r_tOr, r_tNo, r_tYs, r_eIf, r_eAn, r_eOr, r_eNo, r_evV0, r_evVc, r_eMt, r_eMs, r_eMe, r_eCall, r_eCallI, r_sSeq0, r_sSeqc, r_gN, r_gTs0, r_gTsc, r_gT, r_sAsg, r_evO0, r_evOc, r_stA0, r_stAc, r_sPar, r_sEx, r_sAug, r_sPut, r_sRet, r_sIf, r_sPass, r_sCont, r_sRaise, r_eVs, r_itV, r_itR1, r_itR2, r_itE, muT, asB, truth, tyD_l, tyD_d, tyD_s, oLst, oTup], rfl⟩, rfl⟩
  · rfl
theorem air_lc (h0 : R ≠ []) (s0 s1 s2 s4 s5 s6 s8 s9 s10 s11 s12 s13 s14 s15 s17 s18 s20 s21 s22 : Slot) (b : Int) : eLc (itR1 (.ev (eC (.int 36)))) [19] (gN 19) (tOf (eOp oGt [.ev (eOp oIx [.pk 7, .ev (eOp oMod [.ev (eOp oSub [.pk 16, .pk 19]), .pk 3])]), .pk 19])) (eV 19) [s0, s1, s2, some (.int R.length, Tg.fz), s4, s5, s6, some (intsT R, Tg.fz), s8, s9, s10, s11, s12, s13, s14, s15, some (.int b, Tg.fz), s17, s18, none, s20, s21, s22] = .ok (intsL ((rngI 36).filter fun j => decide (j < rowV R (b - j))), true, [s0, s1, s2, some (.int R.length, Tg.fz), s4, s5, s6, some (intsT R, Tg.fz), s8, s9, s10, s11, s12, s13, s14, s15, some (.int b, Tg.fz), s17, s18, none, s20, s21, s22]) := by
  have hp := lenp h0
  refine lc_intsF (L := rngI 36) PyData.int (fun j => decide (j < rowV R (b - j))) (e1 := [s0, s1, s2, some (.int R.length, Tg.fz), s4, s5, s6, some (intsT R, Tg.fz), s8, s9, s10, s11, s12, s13, s14, s15, some (.int b, Tg.fz), s17, s18, none, s20, s21, s22]) ?_ ?_ ?_ ?_ ?_
  · rw [← rangeL_rng]
    (simp -implicitDefEqProofs [r_evA0, r_evAe, r_evAp, r_eOp, r_eC, r_eV, r_eM, r_tOf, r_tAr, r_tAn, r_tOr, r_tNo, r_tYs, r_eIf, r_eAn, r_eOr, r_eNo, r_evV0, r_evVc, r_eMt, r_eMs, r_eMe, r_eCall, r_eCallI, r_sSeq0, r_sSeqc, r_gN, r_gTs0, r_gTsc, r_gT, r_sAsg, r_evO0, r_evOc, r_stA0, r_stAc, r_sPar, r_sEx, r_sAug, r_sPut, r_sRet, r_sIf, r_sPass, r_sCont, r_sRaise, r_eVs, r_itV, r_itR1, r_itR2, r_itE, muT, asB, truth, tyD_l, tyD_d, tyD_s, oLst, oTup, lim62] <;> first | rfl | exact ⟨rfl, rfl⟩)
  · rw [calmC, calm0]; simp -implicitDefEqProofs [r_evA0, r_evAe, r_evAp, r_eOp, r_eC, r_eV, r_eM, r_tOf, r_tAr, r_tAn, r_tOr, r_tNo, r_tYs, r_eIf, r_eAn, r_eOr, r_eNo, r_evV0, r_evVc, r_eMt, r_eMs, r_eMe, r_eCall, r_eCallI, r_sSeq0, r_sSeqc, r_gN, r_gTs0, r_gTsc, r_gT, r_sAsg, r_evO0, r_evOc, r_stA0, r_stAc, r_sPar, r_sEx, r_sAug, r_sPut, r_sRet, r_sIf, r_sPass, r_sCont, r_sRaise, r_eVs, r_itV, r_itR1, r_itR2, r_itE, muT, asB, truth, tyD_l, tyD_d, tyD_s, oLst, oTup]
  · rw [rngI_len]; decide
  · intro i hi
    refine ⟨[s0, s1, s2, some (.int R.length, Tg.fz), s4, s5, s6, some (intsT R, Tg.fz), s8, s9, s10, s11, s12, s13, s14, s15, some (.int b, Tg.fz), s17, s18, some (.int i, Tg.fz), s20, s21, s22], by simp -implicitDefEqProofs [r_evA0, r_evAe, r_evAp, r_eOp, r_eC, r_eV, r_eM, r_tOf, r_tAr, r_tAn, r_tOr, r_tNo, r_tYs, r_eIf, r_eAn, r_eOr, r_eNo, r_evV0, r_evVc, r_eMt, r_eMs, r_eMe, r_eCall, r_eCallI, r_sSeq0, r_sSeqc, r_gN, r_gTs0, r_gTsc, r_gT, r_sAsg, r_evO0, r_evOc, r_stA0, r_stAc, r_sPar, r_sEx, r_sAug, r_sPut, r_sRet, r_sIf, r_sPass, r_sCont, r_sRaise, r_eVs, r_itV, r_itR1, r_itR2, r_itE, muT, asB, truth, tyD_l, tyD_d, tyD_s, oLst, oTup, wipeE], by simp -implicitDefEqProofs [r_evA0, r_evAe, r_evAp, r_eOp, r_eC, r_eV, r_eM, r_tOf, r_tAr, r_tAn, r_tOr, r_tNo, r_tYs, r_eIf, r_eAn, r_eOr, r_eNo, r_evV0, r_evVc, r_eMt, r_eMs, r_eMe, r_eCall, r_eCallI, r_sSeq0, r_sSeqc, r_gN, r_gTs0, r_gTsc, r_gT, r_sAsg, r_evO0, r_evOc, r_stA0, r_stAc, r_sPar, r_sEx, r_sAug, r_sPut, r_sRet, r_sIf, r_sPass, r_sCont, r_sRaise, r_eVs, r_itV, r_itR1, r_itR2, r_itE, muT, asB, truth, tyD_l, tyD_d, tyD_s, oLst, oTup, row_ix h0, oMod_pos hp], ⟨false, [s0, s1, s2, some (.int R.length, Tg.fz), s4, s5, s6, some (intsT R, Tg.fz), s8, s9, s10, s11, s12, s13, s14, s15, some (.int b, Tg.fz), s17, s18, some (.int i, Tg.fz), s20, s21, s22], by simp -implicitDefEqProofs [r_evA0, r_evAe, r_evAp, r_eOp, r_eC, r_eV, r_eM, r_tOf, r_tAr, r_tAn, r_tOr, r_tNo, r_tYs, r_eIf, r_eAn, r_eOr, r_eNo, r_evV0, r_evVc, r_eMt, r_eMs, r_eMe, r_eCall, r_eCallI, r_sSeq0, r_sSeqc, r_gN, r_gTs0, r_gTsc, r_gT, r_sAsg, r_evO0, r_evOc, r_stA0, r_stAc, r_sPar, r_sEx, r_sAug, r_sPut, r_sRet, r_sIf, r_sPass, r_sCont, r_sRaise, r_eVs, r_itV, r_itR1, r_itR2, r_itE, muT, asB, truth, tyD_l, tyD_d, tyD_s, oLst, oTup], rfl⟩, rfl⟩
  · rfl
theorem rng_filter (n : Nat) (p : Int → Bool) : (rngI n).filter p = ((List.range n).filter fun j : Nat => p j).map fun j : Nat => (j : Int) := by
  unfold rngI
  rw [List.filter_map]
  rfl
theorem back_one (J : Jug R) (b : Int) {s : Nat} (hs : s < R.length) (h : ((s : Int) + R.getD s 0) % R.length = b % R.length) : ((rngI 36).filter fun j => decide (rowV R (b - j) = j)) = [R.getD s 0] := by
  rw [rng_filter, J.back b hs h]
  have := (J.top hs).1
  show [(((R.getD s 0).toNat : Nat) : Int)] = _
  rw [Int.toNat_of_nonneg this]
theorem air_len (b : Int) : ((((rngI 36).filter fun j => decide (j < rowV R (b - j))).length : Nat) : Int) = airV R b := by
  rw [rng_filter, List.length_map, ← S_filter (fun j : Nat => decide ((j : Int) < rowV R (b - j)))]
  rfl
theorem beats_ok (J : Jug R) (hl : R.length ≤ 9) (hc : m_clash [intsT R] = .ret .none false .none) {ns row : List Int} {a : Int} (hr : row ≠ []) (hrl : row.length < 1000000) {B : List Int} {s2 s9 s10 s11 s12 s13 s14 s15 s18 : Slot} {o4 o16 : Option Int} {j17 : Option (PyData × Bool)} {Q : Fl → Prop} {X : String → PyData → Prop}
    (hQ : ∀ (a : Int) (o4 o16 : Option Int) (j17 : Option (PyData × Bool)), Q (.nx [some (intsL ns, Tg.fz), some (boxV row a, Tg.own), s2, some (.int R.length, Tg.fz), oI? o4, none, none, some (intsT R, Tg.fz), some (intsT B, Tg.fz), s9, s10, s11, s12, s13, s14, s15, oI? o16, jS j17, s18, none, none, none, none])) : wp (sFor (itR1 (.ev (eC (.int 8)))) (gN 4) (sSeq [sAsg (gN 16) (eOp oSub [.ev (eCallI m__law_next 1 [eC (.int 200)]), .ev (eC (.int 100))]), sIf (tOr (tOf (eOp oNe [.ev (eCall m_height_at [eV 7, eV 16]), .ev (eOp oIx [.pk 7, .ev (eOp oMod [.pk 16, .pk 3])])])) (tOf (eOp oNe [.ev (eCall m_lands [eV 7, eV 16]), .ev (eOp oAdd [.pk 16, .ev (eOp oIx [.pk 7, .ev (eOp oMod [.pk 16, .pk 3])])])]))) (sSeq [sRet (eC (.bool false))]) (sSeq []), sAsg (gN 17) (eLc (itR1 (.ev (eC (.int 36)))) [19] (gN 19) (tOf (eOp oEq [.ev (eOp oIx [.pk 7, .ev (eOp oMod [.ev (eOp oSub [.pk 16, .pk 19]), .pk 3])]), .pk 19])) (eV 19)), sIf (tOr (tOf (eOp oNe [.ev (eCall m_thrown_at [eV 7, eV 16]), .ev (eOp oSub [.pk 16, .ev (eOp oIx [.pk 17, .ev (eC (.int 0))])])])) (tOf (eOp oNe [.ev (eOp oLen [.pk 17]), .ev (eC (.int 1))]))) (sSeq [sRet (eC (.bool false))]) (sSeq []), sIf (tOr (tOf (eOp oNe [.ev (eCall m_in_air [eV 7, eV 16]), .ev (eOp oLen [.ev (eLc (itR1 (.ev (eC (.int 36)))) [19] (gN 19) (tOf (eOp oGt [.ev (eOp oIx [.pk 7, .ev (eOp oMod [.ev (eOp oSub [.pk 16, .pk 19]), .pk 3])]), .pk 19])) (eV 19))])])) (tOf (eOp oNe [.ev (eCall m_in_air [eV 7, eV 16]), .ev (eOp oDiv [.ev (eOp oSum [.pk 7]), .pk 3])]))) (sSeq [sRet (eC (.bool false))]) (sSeq [])]) [some (intsL ns, Tg.fz), some (boxV row a, Tg.own), s2, some (.int R.length, Tg.fz), oI? o4, none, none, some (intsT R, Tg.fz), some (intsT B, Tg.fz), s9, s10, s11, s12, s13, s14, s15, oI? o16, jS j17, s18, none, none, none, none]) Q X := by
  have hp := J.len
  refine wp_for (ds := rangeL 0 8) (by (simp -implicitDefEqProofs [r_evA0, r_evAe, r_evAp, r_eOp, r_eC, r_eV, r_eM, r_tOf, r_tAr, r_tAn, r_tOr, r_tNo, r_tYs, r_eIf, r_eAn, r_eOr, r_eNo, r_evV0, r_evVc, r_eMt, r_eMs, r_eMe, r_eCall, r_eCallI, r_sSeq0, r_sSeqc, r_gN, r_gTs0, r_gTsc, r_gT, r_sAsg, r_evO0, r_evOc, r_stA0, r_stAc, r_sPar, r_sEx, r_sAug, r_sPut, r_sRet, r_sIf, r_sPass, r_sCont, r_sRaise, r_eVs, r_itV, r_itR1, r_itR2, r_itE, muT, asB, truth, tyD_l, tyD_d, tyD_s, oLst, oTup, lim62] <;> first | rfl | exact ⟨rfl, rfl⟩)) (fun k e => ∃ (a : Int) (o4 o16 : Option Int) (j17 : Option (PyData × Bool)), e = [some (intsL ns, Tg.fz), some (boxV row a, Tg.own), s2, some (.int R.length, Tg.fz), oI? o4, none, none, some (intsT R, Tg.fz), some (intsT B, Tg.fz), s9, s10, s11, s12, s13, s14, s15, oI? o16, jS j17, s18, none, none, none, none]) ⟨a, o4, o16, j17, rfl⟩ ?_ (fun e ⟨a, o4, o16, j17, he⟩ => by subst he; exact hQ a o4 o16 j17)
  rintro k z e hd ⟨a, o4, o16, j17, rfl⟩
  obtain ⟨hk, rfl⟩ := range_get hd
  refine ⟨[some (intsL ns, Tg.fz), some (boxV row a, Tg.own), s2, some (.int R.length, Tg.fz), some (.int k, Tg.fz), none, none, some (intsT R, Tg.fz), some (intsT B, Tg.fz), s9, s10, s11, s12, s13, s14, s15, oI? o16, jS j17, s18, none, none, none, none], by simp -implicitDefEqProofs [r_evA0, r_evAe, r_evAp, r_eOp, r_eC, r_eV, r_eM, r_tOf, r_tAr, r_tAn, r_tOr, r_tNo, r_tYs, r_eIf, r_eAn, r_eOr, r_eNo, r_evV0, r_evVc, r_eMt, r_eMs, r_eMe, r_eCall, r_eCallI, r_sSeq0, r_sSeqc, r_gN, r_gTs0, r_gTsc, r_gT, r_sAsg, r_evO0, r_evOc, r_stA0, r_stAc, r_sPar, r_sEx, r_sAug, r_sPut, r_sRet, r_sIf, r_sPass, r_sCont, r_sRaise, r_eVs, r_itV, r_itR1, r_itR2, r_itE, muT, asB, truth, tyD_l, tyD_d, tyD_s, oLst, oTup], ?_⟩
  have hnx := next_ok (a := a) (by decide : (0 : Int) < 200) hr hrl
  generalize nextV row a 200 = v at hnx
  (rw [wp_seq]; (conv => arg 1; simp -implicitDefEqProofs [r_evA0, r_evAe, r_evAp, r_eOp, r_eC, r_eV, r_eM, r_tOf, r_tAr, r_tAn, r_tOr, r_tNo, r_tYs, r_eIf, r_eAn, r_eOr, r_eNo, r_evV0, r_evVc, r_eMt, r_eMs, r_eMe, r_eCall, r_eCallI, r_sSeq0, r_sSeqc, r_gN, r_gTs0, r_gTsc, r_gT, r_sAsg, r_evO0, r_evOc, r_stA0, r_stAc, r_sPar, r_sEx, r_sAug, r_sPut, r_sRet, r_sIf, r_sPass, r_sCont, r_sRaise, r_eVs, r_itV, r_itR1, r_itR2, r_itE, muT, asB, truth, tyD_l, tyD_d, tyD_s, oLst, oTup, hnx]); rw [wp_nx])
  generalize v - 100 = b
  obtain ⟨s, hs, hb⟩ := J.src b
  have hone := back_one J b hs hb
  have hth := thrown_ok J (by omega) hc b hs hb
  generalize R.getD s 0 = x at hone hth
  (rw [wp_seq]; (conv => arg 1; simp -implicitDefEqProofs [r_evA0, r_evAe, r_evAp, r_eOp, r_eC, r_eV, r_eM, r_tOf, r_tAr, r_tAn, r_tOr, r_tNo, r_tYs, r_eIf, r_eAn, r_eOr, r_eNo, r_evV0, r_evVc, r_eMt, r_eMs, r_eMe, r_eCall, r_eCallI, r_sSeq0, r_sSeqc, r_gN, r_gTs0, r_gTsc, r_gT, r_sAsg, r_evO0, r_evOc, r_stA0, r_stAc, r_sPar, r_sEx, r_sAug, r_sPut, r_sRet, r_sIf, r_sPass, r_sCont, r_sRaise, r_eVs, r_itV, r_itR1, r_itR2, r_itE, muT, asB, truth, tyD_l, tyD_d, tyD_s, oLst, oTup, height_ok J.pos, lands_ok J.pos, oMod_pos hp, row_ix J.pos]); rw [wp_nx])
  (rw [wp_seq]; (conv => arg 1; simp -implicitDefEqProofs [r_evA0, r_evAe, r_evAp, r_eOp, r_eC, r_eV, r_eM, r_tOf, r_tAr, r_tAn, r_tOr, r_tNo, r_tYs, r_eIf, r_eAn, r_eOr, r_eNo, r_evV0, r_evVc, r_eMt, r_eMs, r_eMe, r_eCall, r_eCallI, r_sSeq0, r_sSeqc, r_gN, r_gTs0, r_gTsc, r_gT, r_sAsg, r_evO0, r_evOc, r_stA0, r_stAc, r_sPar, r_sEx, r_sAug, r_sPut, r_sRet, r_sIf, r_sPass, r_sCont, r_sRaise, r_eVs, r_itV, r_itR1, r_itR2, r_itE, muT, asB, truth, tyD_l, tyD_d, tyD_s, oLst, oTup, back_lc J.pos, hone]); rw [wp_nx])
  have hx : oIx [intsL [x], .int 0] = some (.int x, false) := oIx_list (by decide) rfl
  (rw [wp_seq]; (conv => arg 1; simp -implicitDefEqProofs [r_evA0, r_evAe, r_evAp, r_eOp, r_eC, r_eV, r_eM, r_tOf, r_tAr, r_tAn, r_tOr, r_tNo, r_tYs, r_eIf, r_eAn, r_eOr, r_eNo, r_evV0, r_evVc, r_eMt, r_eMs, r_eMe, r_eCall, r_eCallI, r_sSeq0, r_sSeqc, r_gN, r_gTs0, r_gTsc, r_gT, r_sAsg, r_evO0, r_evOc, r_stA0, r_stAc, r_sPar, r_sEx, r_sAug, r_sPut, r_sRet, r_sIf, r_sPass, r_sCont, r_sRaise, r_eVs, r_itV, r_itR1, r_itR2, r_itE, muT, asB, truth, tyD_l, tyD_d, tyD_s, oLst, oTup, hth, hx, oLen_ints]); rw [wp_nx])
  have hair := J.air b
  have hal := air_len (R := R) b
  rw [wp_seq]
  ((conv => arg 1; simp -implicitDefEqProofs [r_evA0, r_evAe, r_evAp, r_eOp, r_eC, r_eV, r_eM, r_tOf, r_tAr, r_tAn, r_tOr, r_tNo, r_tYs, r_eIf, r_eAn, r_eOr, r_eNo, r_evV0, r_evVc, r_eMt, r_eMs, r_eMe, r_eCall, r_eCallI, r_sSeq0, r_sSeqc, r_gN, r_gTs0, r_gTsc, r_gT, r_sAsg, r_evO0, r_evOc, r_stA0, r_stAc, r_sPar, r_sEx, r_sAug, r_sPut, r_sRet, r_sIf, r_sPass, r_sCont, r_sRaise, r_eVs, r_itV, r_itR1, r_itR2, r_itE, muT, asB, truth, tyD_l, tyD_d, tyD_s, oLst, oTup, air_ok J.pos hc, air_lc J.pos, oLen_ints, hal, hair.1, oSum_intsT, oDiv_pos hp (by omega : (R.length : Int) < 1073741824)]); rw [wp_ok])
  show wp (sSeq [] _) _ _
  rw [wp_nil]
  exact ⟨a + 1, some k, some b, some (_, true), rfl⟩
theorem mix_lc (h0 : R ≠ []) (hl : R.length ≤ 9) {row : List Int} (hr : row ≠ []) (hrl : row.length < 1000000) (a : Int) : ∃ (M : List Int) (a' : Int), M.Perm R ∧ ∀ (ns B : List Int) (s2 s9 s10 s11 s12 s13 s14 s15 s18 s16 s17 : Slot) (o4 : Option Int), eLc (itV (eCallI m__law_order 1 [eV 3])) [4] (gN 4) (tYs) (eOp oIx [.pk 7, .pk 4]) [some (intsL ns, Tg.fz), some (boxV row a, Tg.own), s2, some (.int R.length, Tg.fz), oI? o4, none, none, some (intsT R, Tg.fz), some (intsT B, Tg.fz), s9, s10, s11, s12, s13, s14, s15, s16, s17, s18, none, none, none, none] = .ok (intsL M, true, [some (intsL ns, Tg.fz), some (boxV row a', Tg.own), s2, some (.int R.length, Tg.fz), oI? o4, none, none, some (intsT R, Tg.fz), some (intsT B, Tg.fz), s9, s10, s11, s12, s13, s14, s15, s16, s17, s18, none, none, none, none]) := by
  obtain ⟨O, a', hO, hperm⟩ := order_ok (a := a) (n := R.length) hr hrl (by omega)
  refine ⟨O.map fun k => R.getD k.toNat 0, a', perm_row hperm, fun ns B s2 s9 s10 s11 s12 s13 s14 s15 s18 s16 s17 o4 => ?_⟩
  have := lc_ints (it := itV (eCallI m__law_order 1 [eV 3])) (vs := [4]) (g := gN 4) (f := eOp oIx [.pk 7, .pk 4]) (e := [some (intsL ns, Tg.fz), some (boxV row a, Tg.own), s2, some (.int R.length, Tg.fz), oI? o4, none, none, some (intsT R, Tg.fz), some (intsT B, Tg.fz), s9, s10, s11, s12, s13, s14, s15, s16, s17, s18, none, none, none, none]) (L := O) (fun k => .int (R.getD k.toNat 0)) (e1 := [some (intsL ns, Tg.fz), some (boxV row a', Tg.own), s2, some (.int R.length, Tg.fz), oI? o4, none, none, some (intsT R, Tg.fz), some (intsT B, Tg.fz), s9, s10, s11, s12, s13, s14, s15, s16, s17, s18, none, none, none, none]) (by simp -implicitDefEqProofs [r_evA0, r_evAe, r_evAp, r_eOp, r_eC, r_eV, r_eM, r_tOf, r_tAr, r_tAn, r_tOr, r_tNo, r_tYs, r_eIf, r_eAn, r_eOr, r_eNo, r_evV0, r_evVc, r_eMt, r_eMs, r_eMe, r_eCall, r_eCallI, r_sSeq0, r_sSeqc, r_gN, r_gTs0, r_gTsc, r_gT, r_sAsg, r_evO0, r_evOc, r_stA0, r_stAc, r_sPar, r_sEx, r_sAug, r_sPut, r_sRet, r_sIf, r_sPass, r_sCont, r_sRaise, r_eVs, r_itV, r_itR1, r_itR2, r_itE, muT, asB, truth, tyD_l, tyD_d, tyD_s, oLst, oTup, hO, itsOf_ints]) (by rw [calmC, calm0]; simp -implicitDefEqProofs [r_evA0, r_evAe, r_evAp, r_eOp, r_eC, r_eV, r_eM, r_tOf, r_tAr, r_tAn, r_tOr, r_tNo, r_tYs, r_eIf, r_eAn, r_eOr, r_eNo, r_evV0, r_evVc, r_eMt, r_eMs, r_eMe, r_eCall, r_eCallI, r_sSeq0, r_sSeqc, r_gN, r_gTs0, r_gTsc, r_gT, r_sAsg, r_evO0, r_evOc, r_stA0, r_stAc, r_sPar, r_sEx, r_sAug, r_sPut, r_sRet, r_sIf, r_sPass, r_sCont, r_sRaise, r_eVs, r_itV, r_itR1, r_itR2, r_itE, muT, asB, truth, tyD_l, tyD_d, tyD_s, oLst, oTup]) (by have := hperm.length_eq; rw [rngI_len] at this; omega) (fun i hi => ⟨[some (intsL ns, Tg.fz), some (boxV row a', Tg.own), s2, some (.int R.length, Tg.fz), some (.int i, Tg.fz), none, none, some (intsT R, Tg.fz), some (intsT B, Tg.fz), s9, s10, s11, s12, s13, s14, s15, s16, s17, s18, none, none, none, none], false, [some (intsL ns, Tg.fz), some (boxV row a', Tg.own), s2, some (.int R.length, Tg.fz), some (.int i, Tg.fz), none, none, some (intsT R, Tg.fz), some (intsT B, Tg.fz), s9, s10, s11, s12, s13, s14, s15, s16, s17, s18, none, none, none, none], by simp -implicitDefEqProofs [r_evA0, r_evAe, r_evAp, r_eOp, r_eC, r_eV, r_eM, r_tOf, r_tAr, r_tAn, r_tOr, r_tNo, r_tYs, r_eIf, r_eAn, r_eOr, r_eNo, r_evV0, r_evVc, r_eMt, r_eMs, r_eMe, r_eCall, r_eCallI, r_sSeq0, r_sSeqc, r_gN, r_gTs0, r_gTsc, r_gT, r_sAsg, r_evO0, r_evOc, r_stA0, r_stAc, r_sPar, r_sEx, r_sAug, r_sPut, r_sRet, r_sIf, r_sPass, r_sCont, r_sRaise, r_eVs, r_itV, r_itR1, r_itR2, r_itE, muT, asB, truth, tyD_l, tyD_d, tyD_s, oLst, oTup, wipeE], by simp -implicitDefEqProofs [r_evA0, r_evAe, r_evAp, r_eOp, r_eC, r_eV, r_eM, r_tOf, r_tAr, r_tAn, r_tOr, r_tNo, r_tYs, r_eIf, r_eAn, r_eOr, r_eNo, r_evV0, r_evVc, r_eMt, r_eMs, r_eMe, r_eCall, r_eCallI, r_sSeq0, r_sSeqc, r_gN, r_gTs0, r_gTsc, r_gT, r_sAsg, r_evO0, r_evOc, r_stA0, r_stAc, r_sPar, r_sEx, r_sAug, r_sPut, r_sRet, r_sIf, r_sPass, r_sCont, r_sRaise, r_eVs, r_itV, r_itR1, r_itR2, r_itE, muT, asB, truth, tyD_l, tyD_d, tyD_s, oLst, oTup, ix_R (hperm.mem_iff.mp hi)], rfl⟩) rfl
  rw [this]
  unfold intsL
  rw [List.map_map]
  rfl
def valsD : List PyData := [.tuple [.int 3], .tuple [.int 5, .int 3, .int 1], .tuple [], .list [.int 3], .tuple [.int 36], .tuple [.int (-1)], .tuple [.bool true], .tuple (List.replicate 31 (.int 1)), .none]
def boolsD : List PyData := [.bool true, .bool true, .bool false, .bool false, .bool false, .bool false, .bool false, .bool false, .bool false]
theorem mul31 : oMul [.tuple [.int 1], .int 31] = some (.tuple (List.replicate 31 (.int 1)), false) := by rfl
theorem mul7 : oMul [.list [.bool false], .int 7] = some (.list (List.replicate 7 (.bool false)), true) := by rfl
theorem cat9 : oAdd [.list [.bool true, .bool true], .list (List.replicate 7 (.bool false))] = some (.list boolsD, true) := by rfl
def isD (d : PyData) : PyData := match d with
  | .tuple [.int 3] => .bool true
  | .tuple [.int 5, .int 3, .int 1] => .bool true
  | _ => .bool false
theorem vals_is : ∀ d, d ∈ valsD → m_is_row [d] = .ret (isD d) false .none := by
  intro d hd
  unfold valsD at hd
  simp only [List.mem_cons, List.not_mem_nil, or_false] at hd
  rcases hd with rfl | rfl | rfl | rfl | rfl | rfl | rfl | rfl | rfl <;> rfl
theorem vals_map : valsD.map isD = boolsD := by rfl
theorem vals_lc (s0 s1 s2 s3 s4 s5 s7 s8 s9 s10 s11 s12 s13 s14 s15 s16 s17 s18 s19 s21 s22 : Slot) : eLc (itV (eV 6)) [20] (gN 20) (tYs) (eCall m_is_row [eV 20]) [s0, s1, s2, s3, s4, s5, some (.list valsD, Tg.own), s7, s8, s9, s10, s11, s12, s13, s14, s15, s16, s17, s18, s19, none, s21, s22] = .ok (.list boolsD, true, [s0, s1, s2, s3, s4, s5, some (.list valsD, Tg.fz), s7, s8, s9, s10, s11, s12, s13, s14, s15, s16, s17, s18, s19, none, s21, s22]) := by
  have := lc_eq (it := itV (eV 6)) (vs := [20]) (g := gN 20) (f := eCall m_is_row [eV 20]) (e := [s0, s1, s2, s3, s4, s5, some (.list valsD, Tg.own), s7, s8, s9, s10, s11, s12, s13, s14, s15, s16, s17, s18, s19, none, s21, s22]) (ds := valsD) isD (e1 := [s0, s1, s2, s3, s4, s5, some (.list valsD, Tg.fz), s7, s8, s9, s10, s11, s12, s13, s14, s15, s16, s17, s18, s19, none, s21, s22]) (by simp -implicitDefEqProofs [r_evA0, r_evAe, r_evAp, r_eOp, r_eC, r_eV, r_eM, r_tOf, r_tAr, r_tAn, r_tOr, r_tNo, r_tYs, r_eIf, r_eAn, r_eOr, r_eNo, r_evV0, r_evVc, r_eMt, r_eMs, r_eMe, r_eCall, r_eCallI, r_sSeq0, r_sSeqc, r_gN, r_gTs0, r_gTsc, r_gT, r_sAsg, r_evO0, r_evOc, r_stA0, r_stAc, r_sPar, r_sEx, r_sAug, r_sPut, r_sRet, r_sIf, r_sPass, r_sCont, r_sRaise, r_eVs, r_itV, r_itR1, r_itR2, r_itE, muT, asB, truth, tyD_l, tyD_d, tyD_s, oLst, oTup, itsOf]) (by rw [calmC, calm0]; simp -implicitDefEqProofs [r_evA0, r_evAe, r_evAp, r_eOp, r_eC, r_eV, r_eM, r_tOf, r_tAr, r_tAn, r_tOr, r_tNo, r_tYs, r_eIf, r_eAn, r_eOr, r_eNo, r_evV0, r_evVc, r_eMt, r_eMs, r_eMe, r_eCall, r_eCallI, r_sSeq0, r_sSeqc, r_gN, r_gTs0, r_gTsc, r_gT, r_sAsg, r_evO0, r_evOc, r_stA0, r_stAc, r_sPar, r_sEx, r_sAug, r_sPut, r_sRet, r_sIf, r_sPass, r_sCont, r_sRaise, r_eVs, r_itV, r_itR1, r_itR2, r_itE, muT, asB, truth, tyD_l, tyD_d, tyD_s, oLst, oTup]) (by decide) (fun d hd => ⟨[s0, s1, s2, s3, s4, s5, some (.list valsD, Tg.fz), s7, s8, s9, s10, s11, s12, s13, s14, s15, s16, s17, s18, s19, some (d, Tg.fz), s21, s22], false, [s0, s1, s2, s3, s4, s5, some (.list valsD, Tg.fz), s7, s8, s9, s10, s11, s12, s13, s14, s15, s16, s17, s18, s19, some (d, Tg.fz), s21, s22], by simp -implicitDefEqProofs [r_evA0, r_evAe, r_evAp, r_eOp, r_eC, r_eV, r_eM, r_tOf, r_tAr, r_tAn, r_tOr, r_tNo, r_tYs, r_eIf, r_eAn, r_eOr, r_eNo, r_evV0, r_evVc, r_eMt, r_eMs, r_eMe, r_eCall, r_eCallI, r_sSeq0, r_sSeqc, r_gN, r_gTs0, r_gTsc, r_gT, r_sAsg, r_evO0, r_evOc, r_stA0, r_stAc, r_sPar, r_sEx, r_sAug, r_sPut, r_sRet, r_sIf, r_sPass, r_sCont, r_sRaise, r_eVs, r_itV, r_itR1, r_itR2, r_itE, muT, asB, truth, tyD_l, tyD_d, tyD_s, oLst, oTup, wipeE], by simp -implicitDefEqProofs [r_evA0, r_evAe, r_evAp, r_eOp, r_eC, r_eV, r_eM, r_tOf, r_tAr, r_tAn, r_tOr, r_tNo, r_tYs, r_eIf, r_eAn, r_eOr, r_eNo, r_evV0, r_evVc, r_eMt, r_eMs, r_eMe, r_eCall, r_eCallI, r_sSeq0, r_sSeqc, r_gN, r_gTs0, r_gTsc, r_gT, r_sAsg, r_evO0, r_evOc, r_stA0, r_stAc, r_sPar, r_sEx, r_sAug, r_sPut, r_sRet, r_sIf, r_sPass, r_sCont, r_sRaise, r_eVs, r_itV, r_itR1, r_itR2, r_itE, muT, asB, truth, tyD_l, tyD_d, tyD_s, oLst, oTup, vals_is d hd], rfl⟩) (by intro _; rfl) rfl
  rw [this, vals_map]
end Py
end
section
set_option linter.all false
namespace Py
open PySem L2
theorem oNeg_int (i : Int) : oNeg [.int i] = some (.int (-i), false) := rfl
theorem mul7' : oMul [.list [.bool false], .int 7] = some (.list [.bool false, .bool false, .bool false, .bool false, .bool false, .bool false, .bool false], true) := by rfl
theorem cat9' : oAdd [.list [.bool true, .bool true], .list [.bool false, .bool false, .bool false, .bool false, .bool false, .bool false, .bool false]] = some (.list boolsD, true) := by rfl
theorem sum_bound {R : List Int} {m : Nat} (h : ∀ x, x ∈ R → 0 ≤ x ∧ x ≤ m) : 0 ≤ R.sum ∧ R.sum ≤ R.length * m := by
  induction R with
  | nil => simp
  | cons a R ih =>
    have h1 := h a List.mem_cons_self
    have h2 := ih fun x hx => h x (List.mem_cons_of_mem _ hx)
    rw [List.sum_cons, List.length_cons, Int.natCast_add, Int.add_mul]
    omega
theorem RowOk.rp {R : List Int} {m : Nat} (h : RowOk R m 9) (hm : m ≤ 35) : RP R ∧ ∃ s : Nat, R.sum = s ∧ s ≤ 100000 := by
  have hl := h.le
  have hb := sum_bound h.hi
  refine ⟨⟨h.pos, by omega, fun x hx => ?_⟩, R.sum.toNat, by omega, ?_⟩
  · have := h.hi x hx
    omega
  · have h3 : (R.length : Int) * m ≤ 9 * 35 := Int.mul_le_mul (by omega) (by omega) (by omega) (by omega)
    omega
set_option maxRecDepth 10000 in
theorem law_ok {ns : List Int} (hl : ns.length ≤ 63) : ∃ o b, m_law [intsL ns] = .ret (.bool true) o b := by
  have key := fn_ret (n := 23) (k := 1) (body := sSeq s_law) (ds := [intsL ns]) (Z := fun d o => d = .bool true) rfl ?_
  · obtain ⟨d, o, h1, rfl⟩ := key
    exact ⟨o, _, h1⟩
  · unfold s_law
    show wp (sSeq _ [some (intsL ns, Tg.fz), none, none, none, none, none, none, none, none, none, none, none, none, none, none, none, none, none, none, none, none, none, none]) _ _
    obtain ⟨row, hbox, hr, hrl⟩ := box_ok hl
    obtain ⟨R1, a1, hrow, hR1, hnd⟩ := row_ok (a := 0) (most := 20) (len := 9) hr hrl (by decide) (by decide) (by decide)
    obtain ⟨R2, a2, hsome, hR2⟩ := some_row (a := a1) (most := 12) (len := 9) hr hrl (by decide) (by decide) (by decide)
    have hrow : m__law_row [boxV row 0, .int 20, .int 9] = .ret (intsT R1) false (boxV row a1) := hrow
    have hsome : m__law_some [boxV row a1, .int 12, .int 9] = .ret (intsT R2) false (boxV row a2) := hsome
    obtain ⟨hp1, hs1⟩ := RowOk.rp (m := 20) hR1 (by decide)
    obtain ⟨hp2, hs2⟩ := RowOk.rp (m := 12) hR2 (by decide)
    have J : Jug R1 := ⟨hp1.pos, hp1.hi, hnd⟩
    have hc : m_clash [intsT R1] = .ret .none false .none := by
      obtain ⟨d, h1, h2⟩ := clash_ok hp1.pos (by have := hp1.len; omega : R1.length ≤ 1000000)
      have : d = .none := clashIs_one h2 (.inr ⟨nd_iff.mp hnd, rfl⟩)
      rw [h1, this]
    (rw [wp_seq]; (conv => arg 1; simp -implicitDefEqProofs [r_evA0, r_evAe, r_evAp, r_eOp, r_eC, r_eV, r_eM, r_tOf, r_tAr, r_tAn, r_tOr, r_tNo, r_tYs, r_eIf, r_eAn, r_eOr, r_eNo, r_evV0, r_evVc, r_eMt, r_eMs, r_eMe, r_eCall, r_eCallI, r_sSeq0, r_sSeqc, r_gN, r_gTs0, r_gTsc, r_gT, r_sAsg, r_evO0, r_evOc, r_stA0, r_stAc, r_sPar, r_sEx, r_sAug, r_sPut, r_sRet, r_sIf, r_sPass, r_sCont, r_sRaise, r_eVs, r_itV, r_itR1, r_itR2, r_itE, muT, asB, truth, tyD_l, tyD_d, tyD_s, oLst, oTup, hbox]); rw [wp_nx])
    (rw [wp_seq]; (conv => arg 1; simp -implicitDefEqProofs [r_evA0, r_evAe, r_evAp, r_eOp, r_eC, r_eV, r_eM, r_tOf, r_tAr, r_tAn, r_tOr, r_tNo, r_tYs, r_eIf, r_eAn, r_eOr, r_eNo, r_evV0, r_evVc, r_eMt, r_eMs, r_eMe, r_eCall, r_eCallI, r_sSeq0, r_sSeqc, r_gN, r_gTs0, r_gTsc, r_gT, r_sAsg, r_evO0, r_evOc, r_stA0, r_stAc, r_sPar, r_sEx, r_sAug, r_sPut, r_sRet, r_sIf, r_sPass, r_sCont, r_sRaise, r_eVs, r_itV, r_itR1, r_itR2, r_itE, muT, asB, truth, tyD_l, tyD_d, tyD_s, oLst, oTup, hrow, hsome]); rw [wp_nx])
    rw [wp_seq]
    refine wp_for (ds := [intsT R1, intsT R2]) (e1 := [some (intsL ns, Tg.fz), some (boxV row a2, Tg.own), none, none, none, none, none, some (intsT R1, Tg.fz), some (intsT R2, Tg.fz), none, none, none, none, none, none, none, none, none, none, none, none, none, none]) (by (simp -implicitDefEqProofs [r_evA0, r_evAe, r_evAp, r_eOp, r_eC, r_eV, r_eM, r_tOf, r_tAr, r_tAn, r_tOr, r_tNo, r_tYs, r_eIf, r_eAn, r_eOr, r_eNo, r_evV0, r_evVc, r_eMt, r_eMs, r_eMe, r_eCall, r_eCallI, r_sSeq0, r_sSeqc, r_gN, r_gTs0, r_gTsc, r_gT, r_sAsg, r_evO0, r_evOc, r_stA0, r_stAc, r_sPar, r_sEx, r_sAug, r_sPut, r_sRet, r_sIf, r_sPass, r_sCont, r_sRaise, r_eVs, r_itV, r_itR1, r_itR2, r_itE, muT, asB, truth, tyD_l, tyD_d, tyD_s, oLst, oTup, itsOf] <;> first | rfl | exact ⟨rfl, rfl⟩)) (fun k e => ∃ (a : Int) (o3 o4 o13 o16 o18 : Option Int) (c2 c9 c10 : Option PyData) (j11 j12 j14 j15 : Option (PyData × Bool)), e = [some (intsL ns, Tg.fz), some (boxV row a, Tg.own), cS c2, oI? o3, oI? o4, none, none, some (intsT R1, Tg.fz), some (intsT R2, Tg.fz), cS c9, cS c10, jS j11, jS j12, oI? o13, jS j14, jS j15, oI? o16, none, oI? o18, none, none, none, none]) ⟨a2, none, none, none, none, none, none, none, none, none, none, none, none, rfl⟩ ?_ ?_
    · rintro k d e hd ⟨a, o3, o4, o13, o16, o18, c2, c9, c10, j11, j12, j14, j15, rfl⟩
      have go : ∀ (Q : Fl → Prop) (X : String → PyData → Prop) (R : List Int), RP R → (∃ s : Nat, R.sum = s ∧ s ≤ 100000) → d = intsT R → ∃ e1, gN 2 d false [some (intsL ns, Tg.fz), some (boxV row a, Tg.own), cS c2, oI? o3, oI? o4, none, none, some (intsT R1, Tg.fz), some (intsT R2, Tg.fz), cS c9, cS c10, jS j11, jS j12, oI? o13, jS j14, jS j15, oI? o16, none, oI? o18, none, none, none, none] = some e1 ∧ wp (sSeq lawBody e1) (goOn (fun e => ∃ (a : Int) (o3 o4 o13 o16 o18 : Option Int) (c2 c9 c10 : Option PyData) (j11 j12 j14 j15 : Option (PyData × Bool)), e = [some (intsL ns, Tg.fz), some (boxV row a, Tg.own), cS c2, oI? o3, oI? o4, none, none, some (intsT R1, Tg.fz), some (intsT R2, Tg.fz), cS c9, cS c10, jS j11, jS j12, oI? o13, jS j14, jS j15, oI? o16, none, oI? o18, none, none, none, none]) Q) X := by
        intro Q X R h hs hdR
        subst hdR
        exact ⟨[some (intsL ns, Tg.fz), some (boxV row a, Tg.own), some (intsT R, Tg.fz), oI? o3, oI? o4, none, none, some (intsT R1, Tg.fz), some (intsT R2, Tg.fz), cS c9, cS c10, jS j11, jS j12, oI? o13, jS j14, jS j15, oI? o16, none, oI? o18, none, none, none, none], by simp -implicitDefEqProofs [r_evA0, r_evAe, r_evAp, r_eOp, r_eC, r_eV, r_eM, r_tOf, r_tAr, r_tAn, r_tOr, r_tNo, r_tYs, r_eIf, r_eAn, r_eOr, r_eNo, r_evV0, r_evVc, r_eMt, r_eMs, r_eMe, r_eCall, r_eCallI, r_sSeq0, r_sSeqc, r_gN, r_gTs0, r_gTsc, r_gT, r_sAsg, r_evO0, r_evOc, r_stA0, r_stAc, r_sPar, r_sEx, r_sAug, r_sPut, r_sRet, r_sIf, r_sPass, r_sCont, r_sRaise, r_eVs, r_itV, r_itR1, r_itR2, r_itE, muT, asB, truth, tyD_l, tyD_d, tyD_s, oLst, oTup], body_ok h hs fun o3 o4 o13 o16 o18 c9 c10 j11 j12 j14 j15 => ⟨a, o3, o4, o13, o16, o18, some _, c9, c10, j11, j12, j14, j15, rfl⟩⟩
      match k, hd with
      | 0, hd => exact go _ _ R1 hp1 hs1 (Option.some.inj hd).symm
      | 1, hd => exact go _ _ R2 hp2 hs2 (Option.some.inj hd).symm
    · rintro e ⟨a, o3, o4, o13, o16, o18, c2, c9, c10, j11, j12, j14, j15, rfl⟩
      rw [seqK_nx]
      (rw [wp_seq]; (conv => arg 1; simp -implicitDefEqProofs [r_evA0, r_evAe, r_evAp, r_eOp, r_eC, r_eV, r_eM, r_tOf, r_tAr, r_tAn, r_tOr, r_tNo, r_tYs, r_eIf, r_eAn, r_eOr, r_eNo, r_evV0, r_evVc, r_eMt, r_eMs, r_eMe, r_eCall, r_eCallI, r_sSeq0, r_sSeqc, r_gN, r_gTs0, r_gTsc, r_gT, r_sAsg, r_evO0, r_evOc, r_stA0, r_stAc, r_sPar, r_sEx, r_sAug, r_sPut, r_sRet, r_sIf, r_sPass, r_sCont, r_sRaise, r_eVs, r_itV, r_itR1, r_itR2, r_itE, muT, asB, truth, tyD_l, tyD_d, tyD_s, oLst, oTup, oLen_intsT]); rw [wp_nx])
      rw [wp_seq]
      refine beats_ok (j17 := none) J hp1.len hc hr hrl fun a o4 o16 j17 => ?_
      rw [seqK_nx]
      obtain ⟨M, a', hM, hmix⟩ := mix_lc J.pos hp1.len hr hrl a
      have ht : oTuple [intsL M] = some (intsT M, false) := rfl
      (rw [wp_seq]; (conv => arg 1; simp -implicitDefEqProofs [r_evA0, r_evAe, r_evAp, r_eOp, r_eC, r_eV, r_eM, r_tOf, r_tAr, r_tAn, r_tOr, r_tNo, r_tYs, r_eIf, r_eAn, r_eOr, r_eNo, r_evV0, r_evVc, r_eMt, r_eMs, r_eMe, r_eCall, r_eCallI, r_sSeq0, r_sSeqc, r_gN, r_gTs0, r_gTsc, r_gT, r_sAsg, r_evO0, r_evOc, r_stA0, r_stAc, r_sPar, r_sEx, r_sAug, r_sPut, r_sRet, r_sIf, r_sPass, r_sCont, r_sRaise, r_eVs, r_itV, r_itR1, r_itR2, r_itE, muT, asB, truth, tyD_l, tyD_d, tyD_s, oLst, oTup, hmix, ht]); rw [wp_nx])
      (rw [wp_seq]; (conv => arg 1; simp -implicitDefEqProofs [r_evA0, r_evAe, r_evAp, r_eOp, r_eC, r_eV, r_eM, r_tOf, r_tAr, r_tAn, r_tOr, r_tNo, r_tYs, r_eIf, r_eAn, r_eOr, r_eNo, r_evV0, r_evVc, r_eMt, r_eMs, r_eMe, r_eCall, r_eCallI, r_sSeq0, r_sSeqc, r_gN, r_gTs0, r_gTsc, r_gT, r_sAsg, r_evO0, r_evOc, r_stA0, r_stAc, r_sPar, r_sEx, r_sAug, r_sPut, r_sRet, r_sIf, r_sPass, r_sCont, r_sRaise, r_eVs, r_itV, r_itR1, r_itR2, r_itE, muT, asB, truth, tyD_l, tyD_d, tyD_s, oLst, oTup, same_ok, iSort_perm hM, oIsNot_b, oSort_intsT, oEq_intsL]); rw [wp_nx])
      (rw [wp_seq]; (conv => arg 1; simp -implicitDefEqProofs [r_evA0, r_evAe, r_evAp, r_eOp, r_eC, r_eV, r_eM, r_tOf, r_tAr, r_tAn, r_tOr, r_tNo, r_tYs, r_eIf, r_eAn, r_eOr, r_eNo, r_evV0, r_evVc, r_eMt, r_eMs, r_eMe, r_eCall, r_eCallI, r_sSeq0, r_sSeqc, r_gN, r_gTs0, r_gTsc, r_gT, r_sAsg, r_evO0, r_evOc, r_stA0, r_stAc, r_sPar, r_sEx, r_sAug, r_sPut, r_sRet, r_sIf, r_sPass, r_sCont, r_sRaise, r_eVs, r_itV, r_itR1, r_itR2, r_itE, muT, asB, truth, tyD_l, tyD_d, tyD_s, oLst, oTup, oNeg_int, mul31]); rw [wp_nx])

      change wp (sSeq _ [some (intsL ns, Tg.fz), some (boxV row a', Tg.own), _, _, _, some (intsT M, Tg.fz), some (.list valsD, Tg.own), some (intsT R1, Tg.fz), some (intsT R2, Tg.fz), _, _, _, _, _, _, _, _, _, _, none, none, none, none]) _ _
      have heq : oEq [.list boolsD, .list boolsD] = some (.bool true, false) := by
        refine oEq_self (n := 1) (fl_list fun d hd => ?_) (by decide)
        simp only [boolsD, List.mem_cons, List.not_mem_nil, or_false] at hd
        rcases hd with rfl | rfl | rfl | rfl | rfl | rfl | rfl | rfl | rfl <;> exact fl_bool
      rw [wp_seq]
      ((conv => arg 1; simp -implicitDefEqProofs [r_evA0, r_evAe, r_evAp, r_eOp, r_eC, r_eV, r_eM, r_tOf, r_tAr, r_tAn, r_tOr, r_tNo, r_tYs, r_eIf, r_eAn, r_eOr, r_eNo, r_evV0, r_evVc, r_eMt, r_eMs, r_eMe, r_eCall, r_eCallI, r_sSeq0, r_sSeqc, r_gN, r_gTs0, r_gTsc, r_gT, r_sAsg, r_evO0, r_evOc, r_stA0, r_stAc, r_sPar, r_sEx, r_sAug, r_sPut, r_sRet, r_sIf, r_sPass, r_sCont, r_sRaise, r_eVs, r_itV, r_itR1, r_itR2, r_itE, muT, asB, truth, tyD_l, tyD_d, tyD_s, oLst, oTup, vals_lc, mul7', cat9', heq]); rw [wp_ok])
      exact rfl
end Py
end
theorem PySem.Challenge.cw_evercaught_k01_rows_that_can_be_juggled_holds : PySem.Challenge.rw_evercaught_k01_rows_that_can_be_juggled.Holds :=
  Py.holds_of fun ns h1 _ => Py.law_ok (ns := ns) h1
