import PyProof.Rows.All
import Wide.All
import OpenK.AllK
import Wide.FinOn
import HandS.ForMost
import HandS.Set
import HandS.SetTxt0
import HandS.IsInst
import HandS.Deep
import HandS.Defaults
import HandS.WordsExc
import HandS.CallSlots
import HandS.MakeKwOnly
import KE.GoesMore
import HandS.TupMul
import HandS.Wide
import HandS.Style
import KE.DataCmp
import HandS.Small
import HandS.Conv
import KE.DatumOrd
import HandS.Strs
import KE.DataFind
import KE.KFmtOwn
import HandS.FStr
import HandS.RaiseMore
import KE.SortData
import HandS.DictComp
import HandS.SetBool
import KE.DataMinMax
import PyProof.CollectIter
import HandS.SetFor
import HandS.Ends
import HandS.Head0
import HandS.Head1
import HandS.Head2
import HandS.HeadEnd
import HandS.HeadHook1
import HandS.HeadHook2
import KE.KStateDown
import PySem.Challenge.RW_ringfall_k02_webs_with_their_ways
set_option Elab.async false
set_option linter.all false
set_option maxRecDepth 100000
set_option maxHeartbeats 0
section
/-! R0: what a piece of Python computes, over values D and environments of slots. -/
namespace RF
open PySem L2

inductive D where
  | non | bl (b : Bool) | int (i : Int) | str (s : Str)
  | tup (xs : List D) | lst (xs : List D)
  | dic (ks vs : List D)
  | obj (c : Str) (ns : List Str) (vs : List D)
  | glo (x : Str)
  | ty (n : String)
  | set (xs : List D)
  | iset (l : List Int)
  deriving Inhabited

/-- a slot: a value that is never changed; an own list (or object); one that a caller lent -/
inductive SV where
  | val (d : D) | own (c : D) | bor (c : D)
def SV.d : SV → D
  | .val d => d | .own d => d | .bor d => d

/-- what an expression gives: a value; the thing in slot i; a new thing -/
inductive OV where
  | val (d : D) | slot (i : Nat) | fresh (c : D)
/-- what an operation gives -/
inductive RV where
  | val (d : D) | fresh (c : D)
def RV.ov : RV → OV
  | .val d => .val d | .fresh c => .fresh c

abbrev Env := List (Option SV)

inductive R (α : Type) where
  | ok (a : α) (ρ : Env) | ex (e : D) (ρ : Env) | no
def R.bind {α β : Type} (x : R α) (f : α → Env → R β) : R β := match x with
  | .ok a ρ => f a ρ | .ex e ρ => .ex e ρ | .no => .no
def lift {α β : Type} (o : Option α) (f : α → R β) : R β := match o with
  | some a => f a | none => .no

abbrev ME := Env → R OV
abbrev MT := Env → R Bool
inductive Fl where
  | nx | bk | ct | rt (o : OV)
abbrev MS := Env → R Fl

def getS (ρ : Env) (i : Nat) : Option SV := match ρ[i]? with
  | some (some s) => some s | _ => none
def getO (ρ : Env) : OV → Option D
  | .val d => some d | .fresh c => some c
  | .slot i => (getS ρ i).map SV.d
def getOs (ρ : Env) : List OV → Option (List D)
  | [] => some []
  | o :: os => match getO ρ o with
    | some d => match getOs ρ os with
      | some ds => some (d :: ds) | none => none
    | none => none
/-- held for good: the thing in a slot is never changed from now on -/
def keepO (ρ : Env) : OV → Option (D × Env)
  | .val d => some (d, ρ) | .fresh c => some (c, ρ)
  | .slot i => match getS ρ i with
    | some (.val d) => some (d, ρ)
    | some (.own c) => some (c, ρ.set i (some (.val c)))
    | _ => none

/-! ### expressions -/
def eC (d : D) : ME := fun ρ => .ok (.val d) ρ
def eVar (i : Nat) : ME := fun ρ => match getS ρ i with
  | some (.val d) => .ok (.val d) ρ
  | some _ => .ok (.slot i) ρ
  | none => .no
def eKeep (m : ME) : ME := fun ρ => (m ρ).bind fun o ρ1 => lift (keepO ρ1 o) fun p => .ok (.val p.1) p.2
def evU : List ME → Env → R (List OV)
  | [], ρ => .ok [] ρ
  | m :: ms, ρ => (m ρ).bind fun o ρ1 => (evU ms ρ1).bind fun os ρ2 => .ok (o :: os) ρ2
/-- an operation upon the values as they stand at its end -/
def eOp (f : List D → Option RV) (ms : List ME) : ME := fun ρ => (evU ms ρ).bind fun os ρ1 => lift (getOs ρ1 os) fun ds => lift (f ds) fun r => .ok r.ov ρ1

def cap : Nat := 1000000
def eTup (ms : List ME) : ME := eOp (fun ds => if ds.length ≤ cap then some (.val (.tup ds)) else none) (ms.map eKeep)
def eLst (ms : List ME) : ME := eOp (fun ds => if ds.length ≤ cap then some (.fresh (.lst ds)) else none) (ms.map eKeep)

/-! ### tests -/
def truth : D → Option Bool
  | .non => some false | .bl b => some b | .int i => some (i != 0)
  | .str s => some ((s.length : Int) != 0)
  | .tup xs => some (!xs.isEmpty) | .lst xs => some (!xs.isEmpty)
  | _ => none
def tOf (m : ME) : MT := fun ρ => (m ρ).bind fun o ρ1 => lift (getO ρ1 o) fun d => lift (truth d) fun b => .ok b ρ1
def tNot (t : MT) : MT := fun ρ => (t ρ).bind fun b ρ1 => .ok (!b) ρ1
def tAnd (t u : MT) : MT := fun ρ => (t ρ).bind fun b ρ1 => match b with | true => u ρ1 | false => .ok false ρ1
def tOr (t u : MT) : MT := fun ρ => (t ρ).bind fun b ρ1 => match b with | true => .ok true ρ1 | false => u ρ1
def eIf (t : MT) (a b : ME) : ME := fun ρ => (t ρ).bind fun k ρ1 => match k with | true => a ρ1 | false => b ρ1
/-- and, or, not as values: of truths -/
def getB : D → Option Bool | .bl b => some b | _ => none
def eAnd (a b : ME) : ME := fun ρ => (a ρ).bind fun o ρ1 => lift (getO ρ1 o) fun d => lift (getB d) fun k => match k with | true => b ρ1 | false => .ok (.val (.bl false)) ρ1
def eOr (a b : ME) : ME := fun ρ => (a ρ).bind fun o ρ1 => lift (getO ρ1 o) fun d => lift (getB d) fun k => match k with | true => .ok (.val (.bl true)) ρ1 | false => b ρ1
def eNot (a : ME) : ME := eOp (fun | [.bl b] => some (.val (.bl (!b))) | _ => none) [a]

/-! ### stores -/
/-- slot i gets what an expression gave -/
def putS (i : Nat) (o : OV) (ρ : Env) : Option Env :=
  match ρ[i]? with
  | some (some (.bor _)) => none
  | some _ => match o with
    | .val d => some (ρ.set i (some (.val d)))
    | .fresh c => some (ρ.set i (some (.own c)))
    | .slot j => match keepO ρ (.slot j) with
      | some (d, ρ1) => some (ρ1.set i (some (.val d)))
      | none => none
  | none => none
def putV (i : Nat) (d : D) (ρ : Env) : Option Env := putS i (.val d) ρ
def putVs : List Nat → List D → Env → Option Env
  | [], [], ρ => some ρ
  | i :: is, d :: ds, ρ => match putV i d ρ with
    | some ρ1 => putVs is ds ρ1 | none => none
  | _, _, _ => none
/-- a target: a name, or names of a tuple's parts -/
inductive Tg where
  | nm (i : Nat) | tp (is : List Nat)
def Tg.put : Tg → D → Env → Option Env
  | .nm i, d, ρ => putV i d ρ
  | .tp is, .tup ds, ρ => putVs is ds ρ
  | .tp _, _, _ => none
def Tg.ix : Tg → List Nat
  | .nm i => [i] | .tp is => is
def wipeE (ρ : Env) : List Nat → Env
  | [] => ρ
  | v :: vs => (wipeE ρ vs).set v none

/-! ### statements -/
def sSeq (a b : MS) : MS := fun ρ => (a ρ).bind fun f ρ1 => match f with | .nx => b ρ1 | f => .ok f ρ1
def sNil : MS := fun ρ => .ok .nx ρ
def sStop : MS := fun _ => .no
def sBrk : MS := fun ρ => .ok .bk ρ
def sCnt : MS := fun ρ => .ok .ct ρ
def sExp (m : ME) : MS := fun ρ => (m ρ).bind fun _ ρ1 => .ok .nx ρ1
def sRet (m : ME) : MS := fun ρ => (m ρ).bind fun o ρ1 => .ok (.rt o) ρ1
def sIf (t : MT) (a b : MS) : MS := fun ρ => (t ρ).bind fun k ρ1 => match k with | true => a ρ1 | false => b ρ1
def sSet (i : Nat) (m : ME) : MS := fun ρ => (m ρ).bind fun o ρ1 => lift (putS i o ρ1) fun ρ2 => .ok .nx ρ2
/-- names = a tuple that is taken apart -/
def sTup (is : List Nat) (m : ME) : MS := fun ρ => (m ρ).bind fun o ρ1 => lift (getO ρ1 o) fun d => lift ((Tg.tp is).put d ρ1) fun ρ2 => .ok .nx ρ2
/-- a, b = x, y: no tuple is made -/
def putSs : List Nat → List OV → Env → Option Env
  | [], [], ρ => some ρ
  | i :: is, o :: os, ρ => match putSs is os ρ with
    | some ρ1 => putS i o ρ1 | none => none
  | _, _, _ => none
def sPar (is : List Nat) (ms : List ME) : MS := fun ρ => (evU ms ρ).bind fun os ρ1 => lift (putSs is os ρ1) fun ρ2 => .ok .nx ρ2

/-! ### what is walked: the items (a walked thing is held for good) -/
abbrev MI := Env → R (List D)
def itemsOf : D → Option (List D)
  | .lst xs => some xs | .tup xs => some xs
  | .str s => some (s.cps.toList.map fun c => .str ⟨#[c]⟩)
  | _ => none
def iOf (f : List D → Option (List D)) (ms : List ME) : MI := fun ρ => (evU (ms.map eKeep) ρ).bind fun os ρ1 => lift (getOs ρ1 os) fun ds => lift (f ds) fun xs => .ok xs ρ1
def seqI : List D → Option (List D)
  | [d] => itemsOf d
  | _ => none
def rangeD (lo hi : Int) : List D := (List.range (hi - lo).toNat).map fun (k : Nat) => .int (lo + (k : Int))
def range1I : List D → Option (List D)
  | [.int j] => if -(cap : Int) ≤ j ∧ j ≤ cap then some (rangeD 0 j) else none
  | _ => none
def range2I : List D → Option (List D)
  | [.int i, .int j] => if (-(cap : Int) ≤ i ∧ i ≤ cap) ∧ -(cap : Int) ≤ j ∧ j ≤ cap then some (rangeD i j) else none
  | _ => none
def enumD (k : Nat) : List D → List D
  | [] => []
  | x :: xs => .tup [.int (k : Int), x] :: enumD (k + 1) xs
def enumI : List D → Option (List D)
  | [.lst xs] => some (enumD 0 xs)
  | [.tup xs] => some (enumD 0 xs)
  | _ => none

/-! ### loops -/
def goFor (g : Tg) (b : MS) : List D → Env → R Fl
  | [], ρ => .ok .nx ρ
  | d :: ds, ρ => lift (g.put d ρ) fun ρ1 => (b ρ1).bind fun f ρ2 => match f with
    | .nx => goFor g b ds ρ2 | .ct => goFor g b ds ρ2
    | .bk => .ok .nx ρ2
    | .rt o => .ok (.rt o) ρ2
def sFor (g : Tg) (it : MI) (b : MS) : MS := fun ρ => (it ρ).bind fun xs ρ1 => goFor g b xs ρ1
def goWhile (t : MT) (b : MS) : Nat → Env → R Fl
  | 0, _ => .no
  | n + 1, ρ => (t ρ).bind fun k ρ1 => match k with
    | false => .ok .nx ρ1
    | true => (b ρ1).bind fun f ρ2 => match f with
      | .nx => goWhile t b n ρ2 | .ct => goWhile t b n ρ2
      | .bk => .ok .nx ρ2
      | .rt o => .ok (.rt o) ρ2
def sWhile (n : Nat) (t : MT) (b : MS) : MS := goWhile t b n

/-! ### list comprehensions: g the target, vs the block's own names -/
def asV : OV → Option D
  | .val d => some d
  | _ => none
def goLc (vs : List Nat) (g : Tg) (t : MT) (e : ME) : List D → Env → R (List D)
  | [], ρ => .ok [] ρ
  | d :: ds, ρ => lift (g.put d ρ) fun ρ1 => (t ρ1).bind fun k ρ2 => match k with
    | true => (eKeep e ρ2).bind fun o ρ3 => lift (asV o) fun y => (goLc vs g t e ds (wipeE ρ3 vs)).bind fun ys ρ4 => .ok (y :: ys) ρ4
    | false => goLc vs g t e ds (wipeE ρ2 vs)
def tYes : MT := fun ρ => .ok true ρ
/-- the slots vs as they were: only values may be hidden -/
def plainAt (ρ : Env) : List Nat → Bool
  | [] => true
  | v :: vs => (match ρ[v]? with | some none => true | some (some (.val _)) => true | _ => false) && plainAt ρ vs
def backE (ρ0 ρ : Env) : List Nat → Env
  | [] => ρ
  | v :: vs => (backE ρ0 ρ vs).set v (ρ0[v]?.getD none)
/-- no error leaves a comprehension -/
def calmly {α : Type} : R α → R α
  | .ok a ρ => .ok a ρ | _ => .no
def eLc (vs : List Nat) (it : MI) (g : Tg) (t : MT) (e : ME) : ME := fun ρ => (it ρ).bind fun xs ρ1 =>
  match plainAt ρ1 vs with
  | true => (calmly (goLc vs g t e xs (wipeE ρ1 vs))).bind fun ys ρ2 => .ok (.fresh (.lst ys)) (backE ρ1 ρ2 vs)
  | false => .no

/-! ### calls -/
inductive FR where
  | ret (fr : Bool) (d : D) (outs : List D) | ex (e : D) (outs : List D) | no
structure FunSem where
  modes : List Bool
  run : List D → FR
def putOut (o : OV) (c : D) (ρ : Env) : Option Env := match o with
  | .fresh _ => some ρ
  | .slot i => match getS ρ i with
    | some (.own _) => some (ρ.set i (some (.own c)))
    | some (.bor _) => some (ρ.set i (some (.bor c)))
    | _ => none
  | .val _ => none
def putOuts : List Bool → List OV → List D → Env → Option Env
  | [], [], [], ρ => some ρ
  | false :: ms, _ :: os, cs, ρ => putOuts ms os cs ρ
  | true :: ms, o :: os, c :: cs, ρ => match putOut o c ρ with
    | some ρ1 => putOuts ms os cs ρ1 | none => none
  | _, _, _, _ => none
/-- no slot is lent twice; what is not lent is a value -/
def lentOk : List Bool → List OV → List Nat → Bool
  | [], [], _ => true
  | false :: ms, .val _ :: os, l => lentOk ms os l
  | true :: ms, .slot i :: os, l => !l.contains i && lentOk ms os (i :: l)
  | true :: ms, .fresh _ :: os, l => lentOk ms os l
  | _, _, _ => false
/-- what stands for each parameter: an argument, or a default -/
inductive Pm where
  | arg (i : Nat) | dft (d : D)
def pick (os : List OV) : List Pm → Option (List OV)
  | [] => some []
  | .arg i :: ps => match os[i]? with
    | some o => (pick os ps).map (o :: ·) | none => none
  | .dft d :: ps => (pick os ps).map (.val d :: ·)
def doCall (f : FunSem) (os : List OV) (ρ : Env) : R OV :=
  if lentOk f.modes os [] then lift (getOs ρ os) fun ds => match f.run ds with
    | .ret fr d outs => lift (putOuts f.modes os outs ρ) fun ρ2 => .ok (match fr with | true => .fresh d | false => .val d) ρ2
    | .ex e outs => lift (putOuts f.modes os outs ρ) fun ρ2 => .ex e ρ2
    | .no => .no
  else .no
def eCall (f : FunSem) (ms : List ME) : ME := fun ρ => (evU ms ρ).bind fun os ρ1 => doCall f os ρ1
def eCallP (f : FunSem) (ms : List ME) (ps : List Pm) : ME := fun ρ => (evU ms ρ).bind fun os ρ1 => lift (pick os ps) fun os' => doCall f os' ρ1

/-! ### defs -/
def startE : List Bool → List D → List (Option SV)
  | m :: ms, d :: ds => some (match m with | true => .bor d | false => .val d) :: startE ms ds
  | _, _ => []
def outsOf : List Bool → Env → Option (List D)
  | [], _ => some []
  | false :: ms, _ :: ρ => outsOf ms ρ
  | true :: ms, some (.bor c) :: ρ => (outsOf ms ρ).map (c :: ·)
  | _, _ => none
def retOf : Fl → Env → Option (Bool × D)
  | .nx, _ => some (false, .non)
  | .rt (.val d), _ => some (false, d)
  | .rt (.fresh c), _ => some (true, c)
  | .rt (.slot i), ρ => match getS ρ i with
    | some (.val d) => some (false, d)
    | some (.own c) => some (true, c)
    | _ => none
  | _, _ => none
def finish (modes : List Bool) : R Fl → FR
  | .ok f ρ => match retOf f ρ with
    | some (fr, d) => match outsOf modes ρ with
      | some outs => .ret fr d outs | none => .no
    | none => .no
  | .ex e ρ => match outsOf modes ρ with
    | some outs => .ex e outs | none => .no
  | .no => .no
/-- a def: n slots; modes: which parameters are lent (and may be changed) -/
def mkFun (n : Nat) (modes : List Bool) (body : MS) : FunSem where
  modes := modes
  run := fun ds => if ds.length = modes.length then finish modes (body (startE modes ds ++ List.replicate (n - ds.length) none)) else .no
end RF
end
section
/-! R1: how an environment lies over slots and an abstract heap. -/
namespace RF
open PySem L2

/-- what the module's names stand for, with the program and its world -/
structure Mg where
  f : Str → Option Value
  P : Program
  w : World
instance : CoeFun Mg (fun _ => Str → Option Value) := ⟨Mg.f⟩
def md (X : Cx) : Mg := ⟨X.mg, X.prog, X.w⟩
/-- a set of texts: its table rises and can be walked -/
def SetSO (m : Mg) (a : Addr) (l : List Str) : HO := .ext fun h => ∃ T : Froz.SD, h.get? a = some (Froz.sObj "set" T) ∧ Froz.TxOk m.P m.w T l ∧ Ris T.2.2.place.toList ∧ (m.w.params.followText "set-order" = true ∨ T.2.2.led = true)
/-- a set of ints -/
def SetIO (m : Mg) (a : Addr) (l : List Int) : HO := .ext fun h => SetR m.w h a (fun j => decide (j ∈ l)) l.length
/-- the ground of a frame: the heap H0 at its entry, F0 what was frozen then, B what was lent to it -/
structure Bg where
  K : PySem.W.Frag
  mg : Mg
  H0 : Hp
  F0 : Hp
  B : List Addr
  pa : Nat → Option Addr

def Sub (F F' : Hp) : Prop := ∀ a o, F a = some o → F' a = some o
theorem Sub.refl (F : Hp) : Sub F F := fun _ _ h => h
theorem Sub.trans {F G I : Hp} (a : Sub F G) (b : Sub G I) : Sub F I := fun x o h => b x o (a x o h)
theorem Sub.non {F G : Hp} (s : Sub F G) {a : Addr} (h : G a = none) : F a = none := by
  cases e : F a with
  | none => rfl
  | some o => rw [s a o e] at h; cases h
theorem Sub.up {F : Hp} {a : Addr} {o : HO} (h : F a = none) : Sub F (upd F a o) := fun b u e => by
  rw [upd_ne (ne_of_none e h)]; exact e
theorem Sub.upd2 {F G : Hp} (s : Sub F G) {a : Addr} {o : HO} : Sub (L2.upd F a o) (L2.upd G a o) := fun b u e => by
  unfold L2.upd at e ⊢
  by_cases hb : b = a
  · rw [if_pos hb] at e ⊢; exact e
  · rw [if_neg hb] at e ⊢; exact s b u e
theorem Sub.sqT {K : PySem.W.Frag} {F G : Hp} (s : Sub F G) {a : Addr} {vs : List V} (h : SqT K F a vs) : SqT K G a vs := by
  rcases h with (h | ⟨o, h⟩) | h
  · exact .inl (.inl (s _ _ h))
  · exact .inl (.inr ⟨o, s _ _ h⟩)
  · exact .inr h
theorem Sub.sqL {K : PySem.W.Frag} {F G : Hp} (s : Sub F G) {a : Addr} {vs : List V} (h : SqL K F a vs) : SqL K G a vs := by
  rcases h with (h | ⟨o, h⟩) | h
  · exact .inl (.inl (s _ _ h))
  · exact .inl (.inr ⟨o, s _ _ h⟩)
  · exact .inr h

/-- a list that stands in the abstract heap (tracked or known) -/
def SqR (H : Hp) (a : Addr) (vs : List V) : Prop := Rd H a (.lst vs)
theorem SqR.l {K : PySem.W.Frag} {H : Hp} {a : Addr} {vs : List V} (h : SqR H a vs) : SqL K H a vs := .inl h
theorem SqR.of {H : Hp} {a : Addr} {vs : List V} (h : H a = some (.lst vs)) : SqR H a vs := .inl h
theorem Sub.sqR {F G : Hp} (s : Sub F G) {a : Addr} {vs : List V} (h : SqR F a vs) : SqR G a vs := by
  rcases h with h | ⟨o, h⟩
  · exact .inl (s _ _ h)
  · exact .inr ⟨o, s _ _ h⟩
/-- a tuple that surely has no dict of its own -/
def SqN (K : PySem.W.Frag) (H : Hp) (a : Addr) (vs : List V) : Prop :=
  (∃ o, H a = some (.frz o (.tup vs)) ∧ o.dict = none) ∨ ∃ o its n, K.lookup a = some o ∧ o.dict = none ∧ o.cls = .type "tuple" ∧ o.data = .seq its n ∧ its.size ≤ sizeLine ∧ Vals vs its.toList
theorem SqN.t {K : PySem.W.Frag} {H : Hp} {a : Addr} {vs : List V} (h : SqN K H a vs) : SqT K H a vs := by
  rcases h with ⟨o, h, _⟩ | ⟨o, its, n, h1, _, h2⟩
  · exact .inl (.inr ⟨o, h⟩)
  · exact .inr ⟨o, its, n, h1, h2⟩
theorem Sub.sqN {K : PySem.W.Frag} {F G : Hp} (s : Sub F G) {a : Addr} {vs : List V} (h : SqN K F a vs) : SqN K G a vs := by
  rcases h with ⟨o, h, hd⟩ | h
  · exact .inl ⟨o, s _ _ h, hd⟩
  · exact .inr h
section
variable (K : PySem.W.Frag) (mg : Mg) (F : Hp)
mutual
/-- the value v is the datum d, all of it in F -/
def Rep : D → V → Prop
  | .non, v => v = .non
  | .bl b, v => v = .bl b
  | .int i, v => v = .int i
  | .str s, v => v = .str s ∧ s.length ≤ sizeLine ∧ PyData.strOk s = true
  | .tup ds, v => ∃ a vs, v = .ref a ∧ SqN K F a vs ∧ vs.length ≤ sizeLine ∧ Reps ds vs
  | .lst ds, v => ∃ a vs, v = .ref a ∧ SqR F a vs ∧ vs.length ≤ sizeLine ∧ Reps ds vs
  | .dic ks ds, v => ∃ a kvs, v = .ref a ∧ F a = some (.dK kvs) ∧ Reps ks (kvs.map fun p => kV p.1) ∧ Reps ds (kvs.map (·.2))
  | .obj c ns ds, v => ∃ a C dx fs, v = .ref a ∧ mg c = some (.ref C) ∧ F a = some (.ins C dx fs) ∧ fs.map (·.1) = ns ∧ Reps ds (fs.map (·.2))
  | .glo x, v => ∃ f, v = .ref f ∧ mg x = some (.ref f)
  | .ty n, v => v = .ty n
  | .set xs, v => ∃ a l, v = .ref a ∧ F a = some (SetSO mg a l) ∧ l.Nodup ∧ (∀ k ∈ l, k.length ≤ sizeLine ∧ PyData.strOk k = true) ∧ xs = l.map D.str
  | .iset l, v => ∃ a, v = .ref a ∧ F a = some (SetIO mg a l) ∧ l.Nodup
def Reps : List D → List V → Prop
  | [], vs => vs = []
  | d :: ds, vs => ∃ v r, vs = v :: r ∧ Rep d v ∧ Reps ds r
end
end

section
variable {K : PySem.W.Frag} {mg : Mg} {F F' : Hp}
mutual
theorem Rep.mono (s : Sub F F') : ∀ (d : D) (v : V), Rep K mg F d v → Rep K mg F' d v
  | .non, _, h => by simpa [Rep] using h
  | .bl _, _, h => by simpa [Rep] using h
  | .int _, _, h => by simpa [Rep] using h
  | .str _, _, h => by simpa [Rep] using h
  | .tup ds, _, h => by
    simp only [Rep] at h ⊢
    obtain ⟨a, vs, e, q, z, r⟩ := h
    exact ⟨a, vs, e, s.sqN q, z, Reps.mono s ds vs r⟩
  | .lst ds, _, h => by
    simp only [Rep] at h ⊢
    obtain ⟨a, vs, e, q, z, r⟩ := h
    exact ⟨a, vs, e, s.sqR q, z, Reps.mono s ds vs r⟩
  | .dic ks ds, _, h => by
    simp only [Rep] at h ⊢
    obtain ⟨a, kvs, e, q, r1, r2⟩ := h
    exact ⟨a, kvs, e, s _ _ q, Reps.mono s ks _ r1, Reps.mono s ds _ r2⟩
  | .obj c ns ds, _, h => by
    simp only [Rep] at h ⊢
    obtain ⟨a, C, dx, fs, e, m, q, n, r⟩ := h
    exact ⟨a, C, dx, fs, e, m, s _ _ q, n, Reps.mono s ds _ r⟩
  | .glo _, _, h => by simpa [Rep] using h
  | .ty _, _, h => by simpa [Rep] using h
  | .set xs, _, h => by
    simp only [Rep] at h ⊢
    obtain ⟨a, l, e, q, r⟩ := h
    exact ⟨a, l, e, s _ _ q, r⟩
  | .iset l, _, h => by
    simp only [Rep] at h ⊢
    obtain ⟨a, e, q, r⟩ := h
    exact ⟨a, e, s _ _ q, r⟩
theorem Reps.mono (s : Sub F F') : ∀ (ds : List D) (vs : List V), Reps K mg F ds vs → Reps K mg F' ds vs
  | [], _, h => by simpa [Reps] using h
  | d :: ds, _, h => by
    simp only [Reps] at h ⊢
    obtain ⟨v, r, e, h1, h2⟩ := h
    exact ⟨v, r, e, Rep.mono s d v h1, Reps.mono s ds r h2⟩
end
theorem Reps.len : ∀ {ds : List D} {vs : List V}, Reps K mg F ds vs → ds.length = vs.length
  | [], _, h => by simp only [Reps] at h; rw [h]; rfl
  | d :: ds, _, h => by
    simp only [Reps] at h
    obtain ⟨v, r, e, h1, h2⟩ := h
    rw [e, List.length_cons, List.length_cons, h2.len]
theorem Reps.get : ∀ {ds : List D} {vs : List V} {i : Nat} {d : D}, Reps K mg F ds vs → ds[i]? = some d → ∃ v, vs[i]? = some v ∧ Rep K mg F d v
  | [], _, _, _, h, e => by simp at e
  | d :: ds, _, 0, _, h, e => by
    simp only [Reps] at h
    obtain ⟨v, r, rfl, h1, h2⟩ := h
    simp at e; subst e
    exact ⟨v, rfl, h1⟩
  | d :: ds, _, i + 1, _, h, e => by
    simp only [Reps] at h
    obtain ⟨v, r, rfl, h1, h2⟩ := h
    obtain ⟨w, q, z⟩ := h2.get (i := i) (by simpa using e)
    exact ⟨w, by simpa using q, z⟩
theorem Reps.get' : ∀ {ds : List D} {vs : List V} {i : Nat} {v : V}, Reps K mg F ds vs → vs[i]? = some v → ∃ d, ds[i]? = some d ∧ Rep K mg F d v
  | [], _, _, _, h, e => by simp only [Reps] at h; subst h; simp at e
  | d :: ds, _, 0, _, h, e => by
    simp only [Reps] at h
    obtain ⟨v, r, rfl, h1, h2⟩ := h
    simp at e; subst e
    exact ⟨d, rfl, h1⟩
  | d :: ds, _, i + 1, _, h, e => by
    simp only [Reps] at h
    obtain ⟨v, r, rfl, h1, h2⟩ := h
    obtain ⟨w, q, z⟩ := h2.get' (i := i) (by simpa using e)
    exact ⟨w, by simpa using q, z⟩
theorem Reps.nil : Reps K mg F [] [] := by simp [Reps]
theorem Reps.cons {d : D} {v : V} {ds : List D} {vs : List V} (h : Rep K mg F d v) (t : Reps K mg F ds vs) : Reps K mg F (d :: ds) (v :: vs) := by
  simp only [Reps]; exact ⟨v, vs, rfl, h, t⟩
theorem Reps.append : ∀ {ds : List D} {vs : List V} {es : List D} {us : List V}, Reps K mg F ds vs → Reps K mg F es us → Reps K mg F (ds ++ es) (vs ++ us)
  | [], _, _, _, h, t => by simp only [Reps] at h; subst h; exact t
  | d :: ds, _, _, _, h, t => by
    simp only [Reps] at h
    obtain ⟨v, r, rfl, h1, h2⟩ := h
    exact Reps.cons h1 (h2.append t)
theorem Reps.drop : ∀ {ds : List D} {vs : List V} (n : Nat), Reps K mg F ds vs → Reps K mg F (ds.drop n) (vs.drop n)
  | _, _, 0, h => by simpa using h
  | [], _, n + 1, h => by simp only [Reps] at h; subst h; simp [Reps]
  | d :: ds, _, n + 1, h => by
    simp only [Reps] at h
    obtain ⟨v, r, rfl, h1, h2⟩ := h
    simpa using h2.drop n
theorem Reps.take : ∀ {ds : List D} {vs : List V} (n : Nat), Reps K mg F ds vs → Reps K mg F (ds.take n) (vs.take n)
  | _, _, 0, h => by simp [Reps]
  | [], _, n + 1, h => by simp only [Reps] at h; subst h; simp [Reps]
  | d :: ds, _, n + 1, h => by
    simp only [Reps] at h
    obtain ⟨v, r, rfl, h1, h2⟩ := h
    simpa using Reps.cons h1 (h2.take n)
theorem Reps.set : ∀ {ds : List D} {vs : List V} (n : Nat) {d : D} {v : V}, Reps K mg F ds vs → Rep K mg F d v → Reps K mg F (ds.set n d) (vs.set n v)
  | [], _, _, _, _, h, _ => by simp only [Reps] at h; subst h; simp [Reps]
  | e :: ds, _, 0, _, _, h, q => by
    simp only [Reps] at h
    obtain ⟨v, r, rfl, h1, h2⟩ := h
    exact Reps.cons q h2
  | e :: ds, _, n + 1, _, _, h, q => by
    simp only [Reps] at h
    obtain ⟨v, r, rfl, h1, h2⟩ := h
    exact Reps.cons h1 (h2.set n q)
end

/-- the thing c at a: it stands in H, what it holds in F -/
def At (K : PySem.W.Frag) (mg : Mg) (H F : Hp) : D → Addr → Prop
  | .lst ds, a => ∃ vs, H a = some (.lst vs) ∧ vs.length ≤ sizeLine ∧ Reps K mg F ds vs
  | .dic ks ds, a => ∃ kvs, H a = some (.dK kvs) ∧ Reps K mg F ks (kvs.map fun p => kV p.1) ∧ Reps K mg F ds (kvs.map (·.2))
  | .obj c ns ds, a => ∃ C dx fs, mg c = some (.ref C) ∧ H a = some (.ins C dx fs) ∧ fs.map (·.1) = ns ∧ Reps K mg F ds (fs.map (·.2))
  | .set xs, a => ∃ l, H a = some (SetSO mg a l) ∧ l.Nodup ∧ (∀ k ∈ l, k.length ≤ sizeLine ∧ PyData.strOk k = true) ∧ xs = l.map D.str
  | .iset l, a => H a = some (SetIO mg a l) ∧ l.Nodup
  | _, _ => False
/-- .. read: it stands in H (tracked, known or written), what it holds in F -/
def Top (K : PySem.W.Frag) (mg : Mg) (H F : Hp) : D → V → Prop
  | .lst ds, v => ∃ a vs, v = .ref a ∧ SqR H a vs ∧ vs.length ≤ sizeLine ∧ Reps K mg F ds vs
  | .dic ks ds, v => ∃ a kvs, v = .ref a ∧ H a = some (.dK kvs) ∧ Reps K mg F ks (kvs.map fun p => kV p.1) ∧ Reps K mg F ds (kvs.map (·.2))
  | .obj c ns ds, v => ∃ a C dx fs, v = .ref a ∧ mg c = some (.ref C) ∧ H a = some (.ins C dx fs) ∧ fs.map (·.1) = ns ∧ Reps K mg F ds (fs.map (·.2))
  | .set xs, v => ∃ a l, v = .ref a ∧ H a = some (SetSO mg a l) ∧ l.Nodup ∧ (∀ k ∈ l, k.length ≤ sizeLine ∧ PyData.strOk k = true) ∧ xs = l.map D.str
  | .iset l, v => ∃ a, v = .ref a ∧ H a = some (SetIO mg a l) ∧ l.Nodup
  | d, v => Rep K mg F d v
section
variable {K : PySem.W.Frag} {mg : Mg} {H H' F F' : Hp} {c d : D} {a : Addr} {v : V}
theorem At.there (h : At K mg H F c a) : ∃ o, H a = some o := by
  cases c <;> simp only [At] at h
  · obtain ⟨vs, e, _⟩ := h; exact ⟨_, e⟩
  · obtain ⟨kvs, e, _⟩ := h; exact ⟨_, e⟩
  · obtain ⟨_, _, _, _, e, _⟩ := h; exact ⟨_, e⟩
  · obtain ⟨_, e, _⟩ := h; exact ⟨_, e⟩
  · exact ⟨_, h.1⟩
theorem At.move (h : At K mg H F c a) (e : H' a = H a) (s : Sub F F') : At K mg H' F' c a := by
  cases c <;> simp only [At] at h ⊢
  · obtain ⟨vs, q, z, r⟩ := h; exact ⟨vs, by rw [e]; exact q, z, r.mono s⟩
  · obtain ⟨kvs, q, r, t⟩ := h; exact ⟨kvs, by rw [e]; exact q, r.mono s, t.mono s⟩
  · obtain ⟨C, dx, fs, m, q, n, r⟩ := h; exact ⟨C, dx, fs, m, by rw [e]; exact q, n, r.mono s⟩
  · obtain ⟨l, q, r⟩ := h; exact ⟨l, by rw [e]; exact q, r⟩
  · exact ⟨by rw [e]; exact h.1, h.2⟩
theorem At.top (h : At K mg H F c a) : Top K mg H F c (.ref a) := by
  cases c <;> simp only [At, Top] at h ⊢
  · obtain ⟨vs, q, z, r⟩ := h; exact ⟨a, vs, rfl, SqR.of q, z, r⟩
  · obtain ⟨kvs, q, r, t⟩ := h; exact ⟨a, kvs, rfl, q, r, t⟩
  · obtain ⟨C, dx, fs, m, q, n, r⟩ := h; exact ⟨a, C, dx, fs, rfl, m, q, n, r⟩
  · obtain ⟨l, q, r⟩ := h; exact ⟨a, l, rfl, q, r⟩
  · exact ⟨a, rfl, h.1, h.2⟩
/-- it is frozen: H's object goes into F -/
theorem At.rep {o : HO} (h : At K mg H F c a) (q : H a = some o) (n : F a = none) : Rep K mg (upd F a o) c (.ref a) := by
  have s : Sub F (upd F a o) := Sub.up n
  cases c <;> simp only [At, Rep] at h ⊢
  · obtain ⟨vs, e, z, r⟩ := h
    rw [q] at e; cases e
    exact ⟨a, vs, rfl, SqR.of upd_same, z, r.mono s⟩
  · obtain ⟨kvs, e, r, t⟩ := h
    rw [q] at e; cases e
    exact ⟨a, kvs, rfl, upd_same, r.mono s, t.mono s⟩
  · obtain ⟨C, dx, fs, m, e, nn, r⟩ := h
    rw [q] at e; cases e
    exact ⟨a, C, dx, fs, rfl, m, upd_same, nn, r.mono s⟩
  · obtain ⟨l, e, r⟩ := h
    rw [q] at e; cases e
    exact ⟨a, l, rfl, upd_same, r⟩
  · obtain ⟨e, r⟩ := h
    rw [q] at e; cases e
    exact ⟨a, rfl, upd_same, r⟩
theorem Rep.top (s : Sub F H) (h : Rep K mg F d v) : Top K mg H F d v := by
  cases d <;> simp only [Rep, Top] at h ⊢
  case lst ds => obtain ⟨a, vs, e, q, z, r⟩ := h; exact ⟨a, vs, e, s.sqR q, z, r⟩
  case dic ks ds => obtain ⟨a, kvs, e, q, r, t⟩ := h; exact ⟨a, kvs, e, s _ _ q, r, t⟩
  case obj c ns ds => obtain ⟨a, C, dx, fs, e, m, q, n, r⟩ := h; exact ⟨a, C, dx, fs, e, m, s _ _ q, n, r⟩
  case set xs => obtain ⟨a, l, e, q, r⟩ := h; exact ⟨a, l, e, s _ _ q, r⟩
  case iset l => obtain ⟨a, e, q, r⟩ := h; exact ⟨a, e, s _ _ q, r⟩
  all_goals exact h
end

/-! ### the ground -/
structure Fz (g : Bg) (H F : Hp) : Prop where
  sub : Sub F H
  f0 : Sub g.F0 F
  new : ∀ a o, F a = some o → g.F0 a = none → g.H0 a = none
  keep : ∀ a o, g.H0 a = some o → a ∉ g.B → H a = some o
  par : ∀ i a, g.pa i = some a → a ∈ g.B
  bor : ∀ a ∈ g.B, (∃ o, H a = some o) ∧ (∃ o, g.H0 a = some o) ∧ F a = none
/-- what is the frame's own -/
def TOk (g : Bg) (H F : Hp) (a : Addr) (c : D) : Prop := F a = none ∧ g.H0 a = none ∧ At g.K g.mg H F c a
def SVok (g : Bg) (H F : Hp) (i : Nat) : SV → V → Prop
  | .val d, v => Rep g.K g.mg F d v
  | .own c, v => ∃ a, v = .ref a ∧ TOk g H F a c
  | .bor c, v => ∃ a, v = .ref a ∧ g.pa i = some a ∧ At g.K g.mg H F c a
def SV.mut : SV → Bool
  | .val _ => false
  | _ => true
/-- slot i holds what may be changed, at a -/
def Ow (ρ : Env) (σ : St) (i : Nat) (a : Addr) : Prop := ∃ sv, getS ρ i = some sv ∧ sv.mut = true ∧ σ[i]? = some (some (.ref a))
structure Rl (g : Bg) (T : List (Addr × D)) (ρ : Env) (σ : St) (H F : Hp) : Prop where
  fz : Fz g H F
  len : ρ.length = σ.length
  sl : ∀ i sv, getS ρ i = some sv → ∃ v, σ[i]? = some (some v) ∧ SVok g H F i sv v
  tm : ∀ p ∈ T, TOk g H F p.1 p.2
  inj : ∀ i j a, Ow ρ σ i a → Ow ρ σ j a → i = j
  sep : ∀ i a, Ow ρ σ i a → a ∉ T.map (·.1)
  nd : (T.map (·.1)).Nodup

section
variable {g : Bg} {T : List (Addr × D)} {ρ ρ' : Env} {σ : St} {H F F' : Hp} {a p : Addr} {c d : D} {o : HO} {v : V} {i : Nat}
theorem Fz.free (z : Fz g H F) (h : H p = none) : g.H0 p = none ∧ F p = none ∧ p ∉ g.B := by
  have hb : p ∉ g.B := fun hb => by
    obtain ⟨⟨o, e⟩, _⟩ := z.bor p hb
    rw [h] at e; cases e
  refine ⟨?_, z.sub.non h, hb⟩
  cases e : g.H0 p with
  | none => rfl
  | some o => rw [z.keep p o e hb] at h; cases h
theorem SVok.at {sv : SV} (h : SVok g H F i sv v) (m : sv.mut = true) : ∃ a c, v = .ref a ∧ sv.d = c ∧ At g.K g.mg H F c a := by
  cases sv with
  | val d => cases m
  | own c => obtain ⟨a, e, _, _, q⟩ := h; exact ⟨a, c, e, rfl, q⟩
  | bor c => obtain ⟨a, e, _, q⟩ := h; exact ⟨a, c, e, rfl, q⟩
theorem TOk.move {H' : Hp} (h : TOk g H F a c) (e : H' a = H a) (s : Sub F F') (n : F' a = none) : TOk g H' F' a c := ⟨n, h.2.1, h.2.2.move e s⟩
theorem SVok.move {H' : Hp} {sv : SV} (h : SVok g H F i sv v) (s : Sub F F') (e : ∀ a, v = .ref a → sv.mut = true → H' a = H a ∧ F' a = none) : SVok g H' F' i sv v := by
  cases sv with
  | val d => exact h.mono s
  | own c => obtain ⟨a, q, t⟩ := h; exact ⟨a, q, t.move (e a q rfl).1 s (e a q rfl).2⟩
  | bor c => obtain ⟨a, q, b, t⟩ := h; exact ⟨a, q, b, t.move (e a q rfl).1 s⟩
/-- an owned address stands in H, not in F -/
theorem Rl.ow (R : Rl g T ρ σ H F) (h : Ow ρ σ i a) : (∃ o, H a = some o) ∧ F a = none := by
  obtain ⟨sv, e, m, q⟩ := h
  obtain ⟨v, q', z⟩ := R.sl i sv e
  rw [q] at q'; cases q'
  cases sv with
  | val d => cases m
  | own c => obtain ⟨b, e, t⟩ := z; cases e; exact ⟨t.2.2.there, t.1⟩
  | bor c => obtain ⟨b, e, hb, t⟩ := z; cases e; exact ⟨t.there, (R.fz.bor _ (R.fz.par _ _ hb)).2.2⟩
/-- a new object at p, owned by nobody yet -/
theorem Rl.laid (R : Rl g T ρ σ H F) (h : H p = none) : Rl g T ρ σ (upd H p o) F := by
  have hf := R.fz.free h
  refine ⟨⟨fun b u e => ?_, R.fz.f0, R.fz.new, fun b u e hb => ?_, R.fz.par, fun b hb => ?_⟩, R.len, fun i sv e => ?_, fun q hq => ?_, R.inj, R.sep, R.nd⟩
  · rw [upd_ne (ne_of_none (R.fz.sub b u e) h)]; exact R.fz.sub b u e
  · have := R.fz.keep b u e hb
    rw [upd_ne (ne_of_none this h)]; exact this
  · obtain ⟨⟨o', e⟩, r⟩ := R.fz.bor b hb
    exact ⟨⟨o', by rw [upd_ne (ne_of_none e h)]; exact e⟩, r⟩
  · obtain ⟨v, q, z⟩ := R.sl i sv e
    refine ⟨v, q, z.move (Sub.refl F) fun a ea m => ?_⟩
    subst ea
    obtain ⟨⟨o', eo⟩, n⟩ := R.ow (i := i) (a := a) ⟨sv, e, m, q⟩
    exact ⟨by rw [upd_ne (ne_of_none eo h)], n⟩
  · have t := R.tm q hq
    obtain ⟨o', eo⟩ := t.2.2.there
    exact t.move (by rw [upd_ne (ne_of_none eo h)]) (Sub.refl F) t.1
/-- it is a temporary of ours -/
theorem Rl.temp (R : Rl g T ρ σ H F) (t : TOk g H F a c) (h1 : ∀ i, ¬ Ow ρ σ i a) (h2 : a ∉ T.map (·.1)) : Rl g ((a, c) :: T) ρ σ H F := by
  refine ⟨R.fz, R.len, R.sl, fun q hq => ?_, R.inj, fun i b ob hb => ?_, ?_⟩
  · rcases List.mem_cons.mp hq with rfl | hq
    · exact t
    · exact R.tm q hq
  · rcases List.mem_cons.mp hb with e | hb
    · have e : b = a := e
      subst e; exact h1 i ob
    · exact R.sep i b ob hb
  · exact List.nodup_cons.mpr ⟨h2, R.nd⟩
/-- .. it is let go -/
theorem Rl.drop (R : Rl g ((a, c) :: T) ρ σ H F) : Rl g T ρ σ H F :=
  ⟨R.fz, R.len, R.sl, fun q hq => R.tm q (List.mem_cons_of_mem _ hq), R.inj, fun i b ob hb => R.sep i b ob (List.mem_cons_of_mem _ hb), (List.nodup_cons.mp R.nd).2⟩
theorem Rl.drops {T' : List (Addr × D)} (R : Rl g (T' ++ T) ρ σ H F) : Rl g T ρ σ H F := by
  induction T' with
  | nil => exact R
  | cons q r ih => exact ih R.drop
/-- an object that stands in H and that nobody owns is frozen -/
theorem Rl.freeze (R : Rl g T ρ σ H F) (h : H p = some o) (n : F p = none) (n0 : g.H0 p = none) (h1 : ∀ i, ¬ Ow ρ σ i p) (h2 : p ∉ T.map (·.1)) : Rl g T ρ σ H (upd F p o) := by
  have s : Sub F (upd F p o) := Sub.up n
  have hb : p ∉ g.B := fun hb => by
    obtain ⟨_, ⟨u, e⟩, _⟩ := R.fz.bor p hb
    rw [n0] at e; cases e
  refine ⟨⟨fun b u e => ?_, R.fz.f0.trans s, fun b u e e0 => ?_, R.fz.keep, R.fz.par, fun b hb' => ?_⟩, R.len, fun i sv e => ?_, fun q hq => ?_, R.inj, R.sep, R.nd⟩
  · by_cases hbp : b = p
    · subst hbp; rw [upd_same] at e; cases e; exact h
    · rw [upd_ne hbp] at e; exact R.fz.sub b u e
  · by_cases hbp : b = p
    · subst hbp; exact n0
    · rw [upd_ne hbp] at e; exact R.fz.new b u e e0
  · obtain ⟨x, y, z⟩ := R.fz.bor b hb'
    refine ⟨x, y, ?_⟩
    rw [upd_ne (fun e : b = p => hb (by rw [← e]; exact hb'))]; exact z
  · obtain ⟨v, q, z⟩ := R.sl i sv e
    refine ⟨v, q, z.move s fun a ea m => ⟨rfl, ?_⟩⟩
    subst ea
    have ow : Ow ρ σ i a := ⟨sv, e, m, q⟩
    rw [upd_ne (fun e : a = p => h1 i (by rw [← e]; exact ow))]
    exact (R.ow ow).2
  · have t := R.tm q hq
    exact t.move rfl s (by rw [upd_ne (fun e : q.1 = p => h2 (by rw [← e]; exact List.mem_map_of_mem hq))]; exact t.1)
/-- a new object that is frozen at once -/
theorem Rl.laidF (R : Rl g T ρ σ H F) (h : H p = none) : Rl g T ρ σ (upd H p o) (upd F p o) := by
  have f := R.fz.free h
  refine (R.laid (o := o) h).freeze upd_same f.2.1 f.1 (fun i ow => ?_) fun hm => ?_
  · obtain ⟨⟨u, e⟩, _⟩ := R.ow ow
    rw [h] at e; cases e
  · obtain ⟨q, hq, e⟩ := List.mem_map.mp hm
    obtain ⟨u, eu⟩ := (R.tm q hq).2.2.there
    rw [e, h] at eu; cases eu
/-- a new object that is a temporary -/
theorem Rl.laidT (R : Rl g T ρ σ H F) (h : H p = none) (t : At g.K g.mg (upd H p o) F c p) : Rl g ((p, c) :: T) ρ σ (upd H p o) F := by
  have f := R.fz.free h
  refine (R.laid (o := o) h).temp ⟨f.2.1, f.1, t⟩ (fun i ow => ?_) fun hm => ?_
  · obtain ⟨⟨u, e⟩, _⟩ := R.ow ow
    rw [h] at e; cases e
  · obtain ⟨q, hq, e⟩ := List.mem_map.mp hm
    obtain ⟨u, eu⟩ := (R.tm q hq).2.2.there
    rw [e, h] at eu; cases eu
/-- a temporary is frozen -/
theorem Rl.freezeT (R : Rl g ((a, c) :: T) ρ σ H F) : ∃ F', Sub F F' ∧ Rl g T ρ σ H F' ∧ Rep g.K g.mg F' c (.ref a) := by
  have t := R.tm (a, c) (List.mem_cons_self)
  obtain ⟨o, e⟩ := t.2.2.there
  refine ⟨upd F a o, Sub.up t.1, R.drop.freeze e t.1 t.2.1 (fun i ow => R.sep i a ow (by simp)) ?_, t.2.2.rep e t.1⟩
  exact (List.nodup_cons.mp R.nd).1
theorem getS_set_self {sv : Option SV} (h : i < ρ.length) : getS (ρ.set i sv) i = sv := by
  unfold getS; rw [List.getElem?_set_self h]; cases sv <;> rfl
theorem getS_set_ne {sv : Option SV} {j : Nat} (h : i ≠ j) : getS (ρ.set i sv) j = getS ρ j := by
  unfold getS; rw [List.getElem?_set_ne h]
theorem getS_lt {sv : SV} (h : getS ρ i = some sv) : i < ρ.length := by
  unfold getS at h
  cases e : ρ[i]? with
  | none => rw [e] at h; cases h
  | some x => exact (List.getElem?_eq_some_iff.mp e).1
/-- a slot's own thing is frozen -/
theorem Rl.freezeS (R : Rl g T ρ σ H F) {c : D} (h : getS ρ i = some (.own c)) :
    ∃ F' v, Sub F F' ∧ Rl g T (ρ.set i (some (.val c))) σ H F' ∧ σ[i]? = some (some v) ∧ Rep g.K g.mg F' c v := by
  obtain ⟨a, hv, t, ow⟩ : ∃ a, σ[i]? = some (some (.ref a)) ∧ TOk g H F a c ∧ Ow ρ σ i a := by
    obtain ⟨v, q, a, rfl, t⟩ := R.sl i _ h; exact ⟨a, q, t, _, h, rfl, q⟩
  have hi : i < ρ.length := getS_lt h
  obtain ⟨o, e⟩ := t.2.2.there
  have back : ∀ j b, Ow (ρ.set i (some (.val c))) σ j b → j ≠ i ∧ Ow ρ σ j b := fun j b ⟨sv, e1, m, q⟩ => by
    by_cases hj : i = j
    · subst hj; rw [getS_set_self hi] at e1; cases e1; cases m
    · rw [getS_set_ne hj] at e1; exact ⟨fun z => hj z.symm, sv, e1, m, q⟩
  have s : Sub F (upd F a o) := Sub.up t.1
  have rp : Rep g.K g.mg (upd F a o) c (.ref a) := t.2.2.rep e t.1
  have R1 : Rl g T (ρ.set i none) σ H F := by
    have back' : ∀ j b, Ow (ρ.set i none) σ j b → j ≠ i ∧ Ow ρ σ j b := fun j b ⟨sv, e1, m, q⟩ => by
      by_cases hj : i = j
      · subst hj; rw [getS_set_self hi] at e1; cases e1
      · rw [getS_set_ne hj] at e1; exact ⟨fun z => hj z.symm, sv, e1, m, q⟩
    refine ⟨R.fz, by rw [List.length_set]; exact R.len, fun j sv e1 => ?_, R.tm, fun j k b o1 o2 => R.inj j k b (back' j b o1).2 (back' k b o2).2, fun j b o1 => R.sep j b (back' j b o1).2, R.nd⟩
    by_cases hj : i = j
    · subst hj; rw [getS_set_self hi] at e1; cases e1
    · rw [getS_set_ne hj] at e1; exact R.sl j sv e1
  have R2 := R1.freeze e t.1 t.2.1 (fun j o1 => by
    obtain ⟨sv, e1, m, q⟩ := o1
    by_cases hj : i = j
    · subst hj; rw [getS_set_self hi] at e1; cases e1
    · rw [getS_set_ne hj] at e1; exact hj (R.inj i j a ow ⟨sv, e1, m, q⟩)) (R.sep i a ow)
  refine ⟨upd F a o, .ref a, s, ?_, hv, rp⟩
  refine ⟨R2.fz, by rw [List.length_set]; exact R.len, fun j sv e1 => ?_, R2.tm, fun j k b o1 o2 => R.inj j k b (back j b o1).2 (back k b o2).2, fun j b o1 => R.sep j b (back j b o1).2, R.nd⟩
  by_cases hj : i = j
  · subst hj; rw [getS_set_self hi] at e1; cases e1; exact ⟨_, hv, rp⟩
  · exact R2.sl j sv (by rw [getS_set_ne hj] at e1 ⊢; exact e1)
end
end RF
end
section
/-! R2: readings by environments; lists of operands; tests. -/
namespace RF
open PySem L2

/-- what an expression gave -/
def Res (g : Bg) (T : List (Addr × D)) : OV → V → Env → St → Hp → Hp → Prop
  | .val d, v, ρ, σ, H, F => Rl g T ρ σ H F ∧ Rep g.K g.mg F d v
  | .slot i, v, ρ, σ, H, F => Rl g T ρ σ H F ∧ σ[i]? = some (some v)
  | .fresh c, v, ρ, σ, H, F => ∃ a, v = .ref a ∧ Rl g ((a, c) :: T) ρ σ H F
/-- an exception as it flies -/
def XR (g : Bg) (H F : Hp) : D → Value → Option Addr → Prop
  | .obj c ns ds, cls, d => ∃ C, g.mg c = some (.ref C) ∧ cls = .ref C ∧ ((ns = [] ∧ ds = [] ∧ d = none) ∨ ∃ dd fs, d = some dd ∧ H dd = some (.xd fs) ∧ fs.map (·.1) = ns ∧ Reps g.K g.mg F ds (fs.map (·.2)))
  | _, _, _ => False
abbrev WX := Value → Option Addr → St → Hp → Prop
/-- what is wanted where e is raised -/
def Xw (g : Bg) (W : WX) (σ : St) (F : Hp) (e : D) (ρ' : Env) : Prop :=
  ∀ cls d H' F', Sub F F' → Rl g [] ρ' σ H' F' → XR g H' F' e cls d → W cls d σ H'
def rdE (g : Bg) (W : WX) (m : ME) : TE := fun σ H Q => ∃ T ρ F, Rl g T ρ σ H F ∧ match m ρ with
  | .ok o ρ' => ∀ v H' F', Sub F F' → Res g T o v ρ' σ H' F' → Q v H'
  | .ex e ρ' => Xw g W σ F e ρ'
  | .no => False
def rdT (g : Bg) (W : WX) (t : MT) : TT := fun σ H Q => ∃ T ρ F, Rl g T ρ σ H F ∧ match t ρ with
  | .ok b ρ' => ∀ H' F', Sub F F' → Rl g T ρ' σ H' F' → Q b H'
  | .ex e ρ' => Xw g W σ F e ρ'
  | .no => False
/-- an operand -/
def OV1 (g : Bg) (σ : St) (F : Hp) : OV → V → Prop
  | .val d, v => Rep g.K g.mg F d v
  | .slot i, v => σ[i]? = some (some v)
  | .fresh c, v => ∃ a, v = .ref a
def OVs (g : Bg) (σ : St) (F : Hp) : List OV → List V → Prop
  | [], vs => vs = []
  | o :: os, vs => ∃ v r, vs = v :: r ∧ OV1 g σ F o v ∧ OVs g σ F os r
/-- the new things among operands -/
def tmp1 : OV → V → List (Addr × D)
  | .fresh c, .ref a => [(a, c)]
  | _, _ => []
def tmps : List OV → List V → List (Addr × D)
  | o :: os, v :: vs => tmps os vs ++ tmp1 o v
  | _, _ => []
def ResL (g : Bg) (T : List (Addr × D)) (os : List OV) (vs : List V) (ρ : Env) (σ : St) (H F : Hp) : Prop :=
  Rl g (tmps os vs ++ T) ρ σ H F ∧ OVs g σ F os vs
def rdA (g : Bg) (W : WX) (ms : List ME) : TA := fun σ H Q => ∃ T ρ F, Rl g T ρ σ H F ∧ match evU ms ρ with
  | .ok os ρ' => ∀ vs H' F', Sub F F' → ResL g T os vs ρ' σ H' F' → Q vs H'
  | .ex e ρ' => Xw g W σ F e ρ'
  | .no => False
def Tops (g : Bg) (H F : Hp) : List D → List V → Prop
  | [], vs => vs = []
  | d :: ds, vs => ∃ v r, vs = v :: r ∧ Top g.K g.mg H F d v ∧ Tops g H F ds r

section
variable {g : Bg} {W : WX} {T T' : List (Addr × D)} {ρ ρ' : Env} {σ : St} {H H' F F' : Hp} {o : OV} {v : V} {d : D} {Q : VK}
theorem Xw.mono {e : D} (s : Sub F F') (h : Xw g W σ F e ρ') : Xw g W σ F' e ρ' := fun cls d H' F'' s' R x => h cls d H' F'' (s.trans s') R x
theorem OV1.mono (s : Sub F F') (h : OV1 g σ F o v) : OV1 g σ F' o v := by
  cases o with
  | val d => exact Rep.mono s d v h
  | slot i => exact h
  | fresh c => exact h
theorem OVs.mono (s : Sub F F') : ∀ {os : List OV} {vs : List V}, OVs g σ F os vs → OVs g σ F' os vs
  | [], _, h => h
  | o :: os, _, h => by
    obtain ⟨v, r, e, h1, h2⟩ := h
    exact ⟨v, r, e, h1.mono s, OVs.mono s h2⟩
/-- an operand, read as it stands -/
theorem OV1.top (R : Rl g T ρ σ H F) (h : OV1 g σ F o v) (ht : ∀ p ∈ tmp1 o v, p ∈ T) (q : getO ρ o = some d) : Top g.K g.mg H F d v := by
  cases o with
  | val d' => simp only [getO, Option.some.injEq] at q; subst q; exact Rep.top R.fz.sub h
  | fresh c =>
    simp only [getO, Option.some.injEq] at q; subst q
    obtain ⟨a, rfl⟩ := h
    exact (R.tm (a, c) (ht _ (by simp [tmp1]))).2.2.top
  | slot i =>
    simp only [getO] at q
    cases e : getS ρ i with
    | none => rw [e] at q; cases q
    | some sv =>
      rw [e] at q
      simp only [Option.map_some, Option.some.injEq] at q
      obtain ⟨w, e1, z⟩ := R.sl i sv e
      have h : σ[i]? = some (some v) := h
      rw [h] at e1; cases e1
      cases sv with
      | val d' => subst q; exact Rep.top R.fz.sub z
      | own c => subst q; obtain ⟨a, rfl, t⟩ := z; exact t.2.2.top
      | bor c => subst q; obtain ⟨a, rfl, _, t⟩ := z; exact t.top
theorem OVs.tops' (R : Rl g T ρ σ H F) : ∀ {os : List OV} {vs : List V} {ds : List D}, (∀ p ∈ tmps os vs, p ∈ T) → OVs g σ F os vs → getOs ρ os = some ds → Tops g H F ds vs
  | [], _, ds, _, h, q => by
    simp only [getOs, Option.some.injEq] at q; subst q; exact h
  | o :: os, _, ds, ht, h, q => by
    obtain ⟨v, r, rfl, h1, h2⟩ := h
    simp only [getOs] at q
    cases e1 : getO ρ o with
    | none => rw [e1] at q; cases q
    | some d =>
      cases e2 : getOs ρ os with
      | none => rw [e1, e2] at q; cases q
      | some ds' =>
        rw [e1, e2] at q; cases q
        exact ⟨v, r, rfl, h1.top R (fun p hp => ht p (List.mem_append_right _ hp)) e1, OVs.tops' R (fun p hp => ht p (List.mem_append_left _ hp)) h2 e2⟩
theorem ResL.tops {os : List OV} {vs : List V} {ds : List D} (h : ResL g T os vs ρ σ H F) (q : getOs ρ os = some ds) : Tops g H F ds vs :=
  OVs.tops' h.1 (fun p hp => List.mem_append_left _ hp) h.2 q
theorem Res.rl : Res g T o v ρ σ H F → Rl g T ρ σ H F := by
  intro h
  cases o with
  | val d => exact h.1
  | slot i => exact h.1
  | fresh c => obtain ⟨a, _, R⟩ := h; exact R.drop
theorem Res.top (h : Res g T o v ρ σ H F) (q : getO ρ o = some d) : Top g.K g.mg H F d v := by
  cases o with
  | val d' => exact OV1.top (o := .val d') h.1 h.2 (fun p hp => by simp [tmp1] at hp) q
  | slot i => exact OV1.top (o := .slot i) h.1 h.2 (fun p hp => by simp [tmp1] at hp) q
  | fresh c =>
    obtain ⟨a, rfl, R⟩ := h
    exact OV1.top (o := .fresh c) R ⟨a, rfl⟩ (fun p hp => by simp only [tmp1, List.mem_singleton] at hp; subst hp; exact List.mem_cons_self) q
/-- held for good -/
theorem Res.keep {p : D × Env} (h : Res g T o v ρ σ H F) (q : keepO ρ o = some p) : ∃ F', Sub F F' ∧ Rl g T p.2 σ H F' ∧ Rep g.K g.mg F' p.1 v := by
  cases o with
  | val d' => simp only [keepO, Option.some.injEq] at q; subst q; exact ⟨F, Sub.refl F, h.1, h.2⟩
  | fresh c =>
    simp only [keepO, Option.some.injEq] at q; subst q
    obtain ⟨a, rfl, R⟩ := h
    exact R.freezeT
  | slot i =>
    obtain ⟨R, hv⟩ := h
    simp only [keepO] at q
    cases e : getS ρ i with
    | none => rw [e] at q; cases q
    | some sv =>
      rw [e] at q
      cases sv with
      | val d' =>
        cases q
        obtain ⟨w, e1, z⟩ := R.sl i _ e
        rw [hv] at e1; cases e1
        exact ⟨F, Sub.refl F, R, z⟩
      | own c =>
        cases q
        obtain ⟨F', w, s, R', e1, z⟩ := R.freezeS e
        rw [hv] at e1; cases e1
        exact ⟨F', s, R', z⟩
      | bor c => cases q

/-! ### lists of operands -/
theorem rdA_nil {Q : List V → Hp → Prop} (h : rdA g W [] σ H Q) : Q [] H := by
  obtain ⟨T, ρ, F, R, h⟩ := h
  exact h [] H F (Sub.refl F) ⟨R, rfl⟩
theorem rdA_cons {m : ME} {ms : List ME} {Q : List V → Hp → Prop} (h : rdA g W (m :: ms) σ H Q) :
    rdE g W m σ H fun x H1 => rdA g W ms σ H1 fun xs H2 => Q (x :: xs) H2 := by
  obtain ⟨T, ρ, F, R, h⟩ := h
  refine ⟨T, ρ, F, R, ?_⟩
  simp only [evU] at h
  cases e : m ρ with
  | no => rw [e] at h; exact h
  | ex x ρ1 => rw [e] at h; exact h
  | ok o ρ1 =>
    rw [e] at h
    simp only [RF.R.bind] at h
    intro v H1 F1 s1 r1
    obtain ⟨T1, R1, f⟩ : ∃ T1, Rl g T1 ρ1 σ H1 F1 ∧ ∀ os vs ρ2 H2 F2, Sub F1 F2 → ResL g T1 os vs ρ2 σ H2 F2 → ResL g T (o :: os) (v :: vs) ρ2 σ H2 F2 := by
      cases o with
      | val d =>
        refine ⟨T, r1.1, fun os vs ρ2 H2 F2 s2 ⟨R2, z⟩ => ⟨?_, v, vs, rfl, Rep.mono s2 d v r1.2, z⟩⟩
        simpa [tmps, tmp1] using R2
      | slot i =>
        refine ⟨T, r1.1, fun os vs ρ2 H2 F2 s2 ⟨R2, z⟩ => ⟨?_, v, vs, rfl, r1.2, z⟩⟩
        simpa [tmps, tmp1] using R2
      | fresh c =>
        obtain ⟨a, rfl, R1⟩ := r1
        refine ⟨(a, c) :: T, R1, fun os vs ρ2 H2 F2 s2 ⟨R2, z⟩ => ⟨?_, .ref a, vs, rfl, ⟨a, rfl⟩, z⟩⟩
        simp only [tmps, tmp1]
        rw [List.append_assoc]; exact R2
    refine ⟨T1, ρ1, F1, R1, ?_⟩
    cases e2 : evU ms ρ1 with
    | no => rw [e2] at h; exact h
    | ex x ρ2 => rw [e2] at h; exact Xw.mono s1 h
    | ok os ρ2 =>
      rw [e2] at h
      intro vs H2 F2 s2 r2
      exact h (v :: vs) H2 F2 (s1.trans s2) (f os vs ρ2 H2 F2 s2 r2)
/-- an operation by values keeps to f -/
def OkL (g : Bg) (f : List D → Option RV) (r : List V → Hp → VK → Prop) : Prop :=
  ∀ (T : List (Addr × D)) (ρ : Env) (σ : St) (H F : Hp) (ds : List D) (vs : List V) (rv : RV) (Q : VK), Rl g T ρ σ H F → Tops g H F ds vs → f ds = some rv →
    (∀ v H' F', Sub F F' → Res g T rv.ov v ρ σ H' F' → Q v H') → r vs H Q
theorem rdOp {f : List D → Option RV} {ms : List ME} {r : List V → Hp → VK → Prop} (ok : OkL g f r) (h : rdE g W (eOp f ms) σ H Q) : rdA g W ms σ H fun vs H1 => r vs H1 Q := by
  obtain ⟨T, ρ, F, R, h⟩ := h
  refine ⟨T, ρ, F, R, ?_⟩
  simp only [eOp] at h
  cases e : evU ms ρ with
  | no => rw [e] at h; exact h
  | ex x ρ1 => rw [e] at h; exact h
  | ok os ρ1 =>
    rw [e] at h
    simp only [RF.R.bind] at h
    intro vs H1 F1 s1 z
    cases e1 : getOs ρ1 os with
    | none => rw [e1] at h; exact h.elim
    | some ds =>
      rw [e1] at h
      simp only [lift] at h
      cases e2 : f ds with
      | none => rw [e2] at h; exact h.elim
      | some rv =>
        rw [e2] at h
        simp only [lift] at h
        exact ok T ρ1 σ H1 F1 ds vs rv Q z.1.drops (z.tops e1) e2 fun v H' F' s' r => h v H' F' (s1.trans s') r
end

section
variable {X : Cx} {g : Bg} {W : WX} {e : Expr} {m : ME}
theorem PEimp {t t' : TE} (h : PE X e t) (f : ∀ σ H Q, t' σ H Q → t σ H Q) : PE X e t' := ⟨fun pins s σ H Q I q => h.run pins s σ H Q I (f σ H Q q)⟩
theorem PTimp {t t' : TT} (h : PT X e t) (f : ∀ σ H Q, t' σ H Q → t σ H Q) : PT X e t' := ⟨fun pins s σ H Q I q => h.run pins s σ H Q I (f σ H Q q)⟩
theorem PWimp {t t' : TT} (h : PW X e t) (f : ∀ σ H Q, t' σ H Q → t σ H Q) : PW X e t' := ⟨fun w pins s σ H Q I q => h.run w pins s σ H Q I (f σ H Q q)⟩
theorem PAimp {es : List Expr} {t t' : TA} (h : PA X es t) (f : ∀ σ H Q, t' σ H Q → t σ H Q) : PA X es t' := ⟨fun p pins s σ H Q I q => h.run p pins s σ H Q I (f σ H Q q)⟩
theorem PSimp {st : Stmt} {t t' : TS} (h : PS X st t) (f : ∀ D σ H, t' D σ H → t D σ H) : PS X st t' := ⟨fun pins s σ H D I q => h.run pins s σ H D I (f D σ H q)⟩
theorem PSsimp {st : List Stmt} {t t' : TS} (h : PSs X st t) (f : ∀ D σ H, t' D σ H → t D σ H) : PSs X st t' := ⟨fun pins s σ H D I q => h.run pins s σ H D I (f D σ H q)⟩
/-- the expression e runs as m says -/
def SE (X : Cx) (g : Bg) (W : WX) (e : Expr) (m : ME) : Prop := PE X e (rdE g W m)
def ST (X : Cx) (g : Bg) (W : WX) (e : Expr) (t : MT) : Prop := PT X e (rdT g W t)
def SW (X : Cx) (g : Bg) (W : WX) (e : Expr) (t : MT) : Prop := PW X e (rdT g W t)
def SA (X : Cx) (g : Bg) (W : WX) (es : List Expr) (ms : List ME) : Prop := PA X es (rdA g W ms)
theorem SE.keep (h : SE X g W e m) : SE X g W e (eKeep m) := by
  refine PEimp h fun σ H Q q => ?_
  obtain ⟨T, ρ, F, R, q⟩ := q
  refine ⟨T, ρ, F, R, ?_⟩
  simp only [eKeep] at q
  cases e1 : m ρ with
  | no => rw [e1] at q; exact q
  | ex x ρ1 => rw [e1] at q; exact q
  | ok o ρ1 =>
    rw [e1] at q
    simp only [RF.R.bind] at q
    intro v H1 F1 s1 r1
    cases e2 : keepO ρ1 o with
    | none => rw [e2] at q; exact q.elim
    | some p =>
      rw [e2] at q
      simp only [lift] at q
      obtain ⟨F2, s2, R2, rp⟩ := r1.keep e2
      exact q v H1 F2 (s1.trans s2) ⟨R2, rp⟩
theorem SA.nil : SA X g W [] [] := PAimp pa_nil fun _ _ _ q => rdA_nil q
theorem SA.cons {es : List Expr} {ms : List ME} (h : SE X g W e m) (t : SA X g W es ms) (hs : starEach (e :: es) X.env = (false, eval e X.env) :: starEach es X.env) : SA X g W (e :: es) (m :: ms) :=
  PAimp (pa_cons h t hs) fun _ _ _ q => rdA_cons q
/-- a constant -/
theorem SE.c {d : D} {v : V} (h : PE X e (tC v)) (r : ∀ F, Rep g.K g.mg F d v) : SE X g W e (eC d) := by
  refine PEimp h fun σ H Q q => ?_
  obtain ⟨T, ρ, F, R, q⟩ := q
  exact q v H F (Sub.refl F) ⟨R, r F⟩
theorem SE.var {i : Nat} (h : PE X e (tVar i)) : SE X g W e (eVar i) := by
  refine PEimp h fun σ H Q q => ?_
  obtain ⟨T, ρ, F, R, q⟩ := q
  simp only [eVar] at q
  cases e1 : getS ρ i with
  | none => rw [e1] at q; exact q.elim
  | some sv =>
    rw [e1] at q
    obtain ⟨v, hv, z⟩ := R.sl i sv e1
    refine ⟨v, hv, ?_⟩
    cases sv with
    | val d => exact q v H F (Sub.refl F) ⟨R, z⟩
    | own c => exact q v H F (Sub.refl F) ⟨R, hv⟩
    | bor c => exact q v H F (Sub.refl F) ⟨R, hv⟩
/-! ### tests -/
theorem rdTof {σ : St} {H : Hp} {Q : Bool → Hp → Prop} (q : rdT g W (tOf m) σ H Q) : rdE g W m σ H fun x H1 => ∃ d F, Top g.K g.mg H1 F d x ∧ ∃ b, truth d = some b ∧ Q b H1 := by
  obtain ⟨T, ρ, F, R, q⟩ := q
  refine ⟨T, ρ, F, R, ?_⟩
  simp only [tOf] at q
  cases e1 : m ρ with
  | no => rw [e1] at q; exact q
  | ex x ρ1 => rw [e1] at q; exact q
  | ok o ρ1 =>
    rw [e1] at q
    simp only [RF.R.bind] at q
    intro v H1 F1 s1 r1
    cases e2 : getO ρ1 o with
    | none => rw [e2] at q; exact q.elim
    | some d =>
      rw [e2] at q
      simp only [lift] at q
      cases e3 : truth d with
      | none => rw [e3] at q; exact q.elim
      | some b =>
        rw [e3] at q
        exact ⟨d, F1, r1.top e2, b, e3, q H1 F1 s1 r1.rl⟩
theorem Reps.isEmpty {K : PySem.W.Frag} {mg : Mg} {F : Hp} {ds : List D} {vs : List V} (h : Reps K mg F ds vs) : ds.isEmpty = vs.isEmpty := by
  have := h.len
  cases ds <;> cases vs <;> simp_all
theorem truV {K : PySem.W.Frag} {H F : Hp} {mg : Mg} {d : D} {v : V} {b : Bool} (h : Top K mg H F d v) (s : Sub F H) (e : truth d = some b) : TruV K v H b := by
  cases d with
  | non => cases h; cases e; rfl
  | bl k => cases h; cases e; rfl
  | int i => cases h; cases e; rfl
  | str z => obtain ⟨rfl, z, _⟩ := h; cases e; exact ⟨z, rfl⟩
  | tup ds =>
    simp only [Top, Rep] at h
    obtain ⟨a, vs, rfl, q, _, r⟩ := h
    cases e
    exact .inr (.inl ⟨vs, s.sqT q.t, by rw [r.isEmpty]⟩)
  | lst ds =>
    simp only [Top] at h
    obtain ⟨a, vs, rfl, q, _, r⟩ := h
    cases e
    exact .inl ⟨vs, q.l, by rw [r.isEmpty]⟩
  | dic _ _ => cases e
  | obj _ _ _ => cases e
  | glo _ => cases e
  | ty _ => cases e
  | set _ => cases e
  | iset _ => cases e
end
end RF
end
section
/-! R3: expressions and tests, construct by construct. -/
namespace RF
open PySem L2

/-! ### facts of the syntax -/
def notStar : Expr → Bool
  | .Starred .. => false
  | _ => true
theorem star_ok {e : Expr} {es : List Expr} {env : PySem.Env} (h : notStar e = true) : starEach (e :: es) env = (false, eval e env) :: starEach es env := by
  cases e <;> first | rfl | (simp [notStar] at h)
theorem star_any {es : List Expr} {env : PySem.Env} (pos : Pos) (h : es.all notStar = true) : (backTo pos (starEach es env)).any (·.1) = false := by
  induction es with
  | nil => rfl
  | cons e r ih =>
    simp only [List.all_cons, Bool.and_eq_true] at h
    rw [star_ok h.1]
    show (false || (backTo pos (starEach r env)).any (·.1)) = false
    simpa using ih h.2
/-- a plain test: its value's truth -/
def plainTest : Expr → Bool
  | .Name .. => true | .Call .. => true | .Subscript .. => true | .Attribute .. => true | .Constant .. => true | .BinOp .. => true
  | _ => false
theorem plain_ok {e : Expr} {env : PySem.Env} (h : plainTest e = true) : ∀ whole, isTrue e env whole = (do let v ← whole; standAt e.pos; holding [v] (truthy v)) := by
  intro w
  cases e <;> first | rfl | (simp [plainTest] at h)
def plainIx : Expr → Bool
  | .Slice .. => false
  | _ => true
theorem ix_ok {e : Expr} (h : plainIx e = true) : PlainIx e := by
  intro o i
  cases e <;> first | rfl | (simp [plainIx] at h)
def notSetE : Expr → Bool
  | .Set .. => false
  | _ => true
theorem mark_ok {op : CmpOp} {e : Expr} (h : notSetE e = true) : behindInMarks op e = false := by
  cases e <;> first | rfl | (simp [notSetE] at h)
theorem folded_ok {e : Expr} {env : PySem.Env} (h : notSetE e = true) : ∀ x, foldedSetIterable e env x = pure x := by
  intro x
  cases e <;> first | rfl | (simp [notSetE] at h)
def notCall0 : Expr → Bool
  | .Call (.Name _ _) [] [] _ => false
  | _ => true
theorem base_ok {e : Expr} {attr : Str} {env : PySem.Env} (h : notCall0 e = true) : attributeBase e attr env (eval e env) = eval e env := by
  cases e <;> first | rfl | skip
  rename_i f as ks pos
  cases f <;> first | rfl | skip
  cases as <;> first | rfl | skip
  cases ks <;> first | rfl | (simp [notCall0] at h)

section
variable {X : Cx} {g : Bg} {W : WX} {e a b : Expr} {m ma mb : ME} {t u : MT} {σ : St} {H : Hp} {pos : Pos}
/-! ### tests -/
theorem ST.of (hK : X.K = g.K) (h : SE X g W e m) (he : plainTest e = true) : ST X g W e (tOf m) := by
  refine PTimp (pt_truth h (plain_ok he)) fun σ H Q q => ?_
  obtain ⟨T, ρ, F, R, q⟩ := q
  refine ⟨T, ρ, F, R, ?_⟩
  simp only [tOf] at q
  cases e1 : m ρ with
  | no => rw [e1] at q; exact q
  | ex x ρ1 => rw [e1] at q; exact q
  | ok o ρ1 =>
    rw [e1] at q
    simp only [RF.R.bind] at q
    intro v H1 F1 s1 r1
    cases e2 : getO ρ1 o with
    | none => rw [e2] at q; exact q.elim
    | some d =>
      rw [e2] at q
      simp only [lift] at q
      cases e3 : truth d with
      | none => rw [e3] at q; exact q.elim
      | some b =>
        rw [e3] at q
        exact ⟨b, by rw [hK]; exact truV (r1.top e2) r1.rl.fz.sub e3, q H1 F1 s1 r1.rl⟩
/-- a value that is a truth, as a test -/
def Bm (m : ME) : Prop := ∀ ρ o ρ', m ρ = .ok o ρ' → ∃ b, o = .val (.bl b)
theorem rdTB {Q : Bool → Hp → Prop} (hb : Bm m) (q : rdT g W (tOf m) σ H Q) : rdE g W m σ H fun x H1 => ∃ k, x = .bl k ∧ Q k H1 := by
  obtain ⟨T, ρ, F, R, q⟩ := q
  refine ⟨T, ρ, F, R, ?_⟩
  simp only [tOf] at q
  cases e1 : m ρ with
  | no => rw [e1] at q; exact q
  | ex x ρ1 => rw [e1] at q; exact q
  | ok o ρ1 =>
    rw [e1] at q
    obtain ⟨b, rfl⟩ := hb ρ o ρ1 e1
    simp only [RF.R.bind, getO, lift, truth] at q
    intro v H1 F1 s1 r1
    exact ⟨b, r1.2, q H1 F1 s1 r1.1⟩
theorem Bm.op {f : List D → Option RV} {ms : List ME} (h : ∀ ds rv, f ds = some rv → ∃ b, rv = .val (.bl b)) : Bm (eOp f ms) := by
  intro ρ o ρ' e
  simp only [eOp] at e
  cases e1 : evU ms ρ with
  | no => rw [e1] at e; cases e
  | ex x ρ1 => rw [e1] at e; cases e
  | ok os ρ1 =>
    rw [e1] at e
    simp only [RF.R.bind] at e
    cases e2 : getOs ρ1 os with
    | none => rw [e2] at e; cases e
    | some ds =>
      rw [e2] at e
      simp only [lift] at e
      cases e3 : f ds with
      | none => rw [e3] at e; cases e
      | some rv =>
        rw [e3] at e
        obtain ⟨b, rfl⟩ := h ds rv e3
        cases e
        exact ⟨b, rfl⟩
theorem rdT_bind {Q : Bool → Hp → Prop} {k : Bool → MT} (q : rdT g W (fun ρ => (t ρ).bind fun b ρ1 => k b ρ1) σ H Q) :
    rdT g W t σ H fun c H1 => rdT g W (k c) σ H1 Q := by
  obtain ⟨T, ρ, F, R, q⟩ := q
  refine ⟨T, ρ, F, R, ?_⟩
  cases e1 : t ρ with
  | no => simp only [e1, RF.R.bind] at q
  | ex x ρ1 => simp only [e1, RF.R.bind] at q; exact q
  | ok c ρ1 =>
    simp only [e1, RF.R.bind] at q
    intro H1 F1 s1 R1
    refine ⟨T, ρ1, F1, R1, ?_⟩
    cases e2 : k c ρ1 with
    | no => rw [e2] at q; exact q
    | ex x ρ2 => rw [e2] at q; exact q.mono s1
    | ok c2 ρ2 =>
      rw [e2] at q
      exact fun H2 F2 s2 R2 => q H2 F2 (s1.trans s2) R2
theorem rdT_pure {Q : Bool → Hp → Prop} {b : Bool} (q : rdT g W (fun ρ => .ok b ρ) σ H Q) : Q b H := by
  obtain ⟨T, ρ, F, R, q⟩ := q
  exact q H F (Sub.refl F) R
theorem ST.not (h : ST X g W e t) : ST X g W (.UnaryOp .Not e pos) (tNot t) :=
  PTimp (pt_not h) fun σ H Q q => by
    have q := rdT_bind (k := fun b ρ1 => .ok (!b) ρ1) q
    obtain ⟨T, ρ, F, R, q⟩ := q
    refine ⟨T, ρ, F, R, ?_⟩
    cases e1 : t ρ with
    | no => rw [e1] at q; exact q
    | ex x ρ1 => rw [e1] at q; exact q
    | ok c ρ1 => rw [e1] at q; exact fun H1 F1 s1 R1 => rdT_pure (q H1 F1 s1 R1)
theorem rdT_mono {Q Q' : Bool → Hp → Prop} (q : rdT g W t σ H Q) (f : ∀ b H', Q b H' → Q' b H') : rdT g W t σ H Q' := by
  obtain ⟨T, ρ, F, R, q⟩ := q
  refine ⟨T, ρ, F, R, ?_⟩
  cases e1 : t ρ with
  | no => rw [e1] at q; exact q
  | ex x ρ1 => rw [e1] at q; exact q
  | ok c ρ1 => rw [e1] at q; exact fun H1 F1 s1 R1 => f _ _ (q H1 F1 s1 R1)
theorem rdE_mono {Q Q' : VK} (q : rdE g W m σ H Q) (f : ∀ b H', Q b H' → Q' b H') : rdE g W m σ H Q' := by
  obtain ⟨T, ρ, F, R, q⟩ := q
  refine ⟨T, ρ, F, R, ?_⟩
  cases e1 : m ρ with
  | no => rw [e1] at q; exact q
  | ex x ρ1 => rw [e1] at q; exact q
  | ok c ρ1 => rw [e1] at q; exact fun v H1 F1 s1 R1 => f _ _ (q v H1 F1 s1 R1)
theorem rdA_mono {ms : List ME} {Q Q' : List V → Hp → Prop} (q : rdA g W ms σ H Q) (f : ∀ b H', Q b H' → Q' b H') : rdA g W ms σ H Q' := by
  obtain ⟨T, ρ, F, R, q⟩ := q
  refine ⟨T, ρ, F, R, ?_⟩
  cases e1 : evU ms ρ with
  | no => rw [e1] at q; exact q
  | ex x ρ1 => rw [e1] at q; exact q
  | ok c ρ1 => rw [e1] at q; exact fun v H1 F1 s1 R1 => f _ _ (q v H1 F1 s1 R1)
theorem SW.and1 (h : ST X g W a t) : SW X g W (.BoolOp .And [a] pos) t := pw_and1 h
theorem SW.or1 (h : ST X g W a t) : SW X g W (.BoolOp .Or [a] pos) t := pw_or1 h
theorem SW.and {rest : List Expr} (h : ST X g W a t) (r : SW X g W (.BoolOp .And (b :: rest) pos) u) : SW X g W (.BoolOp .And (a :: b :: rest) pos) (tAnd t u) :=
  PWimp (pw_and h r) fun σ H Q q => rdT_mono (rdT_bind (k := fun b ρ1 => match b with | true => u ρ1 | false => .ok false ρ1) q) fun c H1 q1 => by
    cases c with
    | true => exact q1
    | false => exact rdT_pure q1
theorem SW.or {rest : List Expr} (h : ST X g W a t) (r : SW X g W (.BoolOp .Or (b :: rest) pos) u) : SW X g W (.BoolOp .Or (a :: b :: rest) pos) (tOr t u) :=
  PWimp (pw_or h r) fun σ H Q q => rdT_mono (rdT_bind (k := fun b ρ1 => match b with | true => .ok true ρ1 | false => u ρ1) q) fun c H1 q1 => by
    cases c with
    | true => exact rdT_pure q1
    | false => exact q1
theorem SW.pt (h : SW X g W e t) : ST X g W e t := PW.pt h
/-! ### if, and, or, not as values -/
theorem rdTE_bind {Q : VK} {k : Bool → ME} (q : rdE g W (fun ρ => (t ρ).bind fun b ρ1 => k b ρ1) σ H Q) : rdT g W t σ H fun c H1 => rdE g W (k c) σ H1 Q := by
  obtain ⟨T, ρ, F, R, q⟩ := q
  refine ⟨T, ρ, F, R, ?_⟩
  cases e1 : t ρ with
  | no => simp only [e1, RF.R.bind] at q
  | ex x ρ1 => simp only [e1, RF.R.bind] at q; exact q
  | ok c ρ1 =>
    simp only [e1, RF.R.bind] at q
    intro H1 F1 s1 R1
    refine ⟨T, ρ1, F1, R1, ?_⟩
    cases e2 : k c ρ1 with
    | no => rw [e2] at q; exact q
    | ex x ρ2 => rw [e2] at q; exact q.mono s1
    | ok c2 ρ2 =>
      rw [e2] at q
      exact fun v H2 F2 s2 R2 => q v H2 F2 (s1.trans s2) R2
theorem SE.ifExp {c : Expr} (hc : ST X g W c t) (ha : SE X g W a ma) (hb : SE X g W b mb) : SE X g W (.IfExp c a b pos) (eIf t ma mb) :=
  PEimp (pe_ifExp hc ha hb) fun σ H Q q => rdT_mono (rdTE_bind (k := fun b ρ1 => match b with | true => ma ρ1 | false => mb ρ1) q) fun c H1 q1 => by
    cases c with
    | true => exact q1
    | false => exact q1
/-- behind a value, what comes next -/
theorem rdE_bindB {Q : VK} {k : Bool → ME} (q : rdE g W (fun ρ => (m ρ).bind fun o ρ1 => lift (getO ρ1 o) fun d => lift (getB d) fun b => k b ρ1) σ H Q) :
    rdE g W m σ H fun x H1 => ∃ c, x = .bl c ∧ rdE g W (k c) σ H1 Q := by
  obtain ⟨T, ρ, F, R, q⟩ := q
  refine ⟨T, ρ, F, R, ?_⟩
  cases e1 : m ρ with
  | no => simp only [e1, RF.R.bind] at q
  | ex x ρ1 => simp only [e1, RF.R.bind] at q; exact q
  | ok o ρ1 =>
    simp only [e1, RF.R.bind] at q
    intro v H1 F1 s1 r1
    cases e2 : getO ρ1 o with
    | none => rw [e2] at q; exact q.elim
    | some d =>
      rw [e2] at q
      simp only [lift] at q
      cases d with
      | bl c =>
        simp only [getB, lift] at q
        refine ⟨c, r1.top e2, T, ρ1, F1, r1.rl, ?_⟩
        cases e3 : k c ρ1 with
        | no => rw [e3] at q; exact q
        | ex x ρ2 => rw [e3] at q; exact q.mono s1
        | ok c2 ρ2 =>
          rw [e3] at q
          exact fun v H2 F2 s2 R2 => q v H2 F2 (s1.trans s2) R2
      | _ => exact q.elim
theorem rdE_pure {Q : VK} {d : D} {v : V} (q : rdE g W (fun ρ => .ok (.val d) ρ) σ H Q) (r : ∀ F, Rep g.K g.mg F d v) : Q v H := by
  obtain ⟨T, ρ, F, R, q⟩ := q
  exact q v H F (Sub.refl F) ⟨R, r F⟩
theorem rep_bl {K : PySem.W.Frag} {mg : Mg} {b : Bool} (F : Hp) : Rep K mg F (.bl b) (.bl b) := by simp [Rep]
theorem rep_int {K : PySem.W.Frag} {mg : Mg} {i : Int} (F : Hp) : Rep K mg F (.int i) (.int i) := by simp [Rep]
theorem rep_non {K : PySem.W.Frag} {mg : Mg} (F : Hp) : Rep K mg F .non .non := by simp [Rep]
theorem SE.one {op : BoolOp} (h : SE X g W a m) : SE X g W (.BoolOp op [a] pos) m := pe_one h
theorem SE.and {rest : List Expr} (ha : SE X g W a ma) (hb : SE X g W (.BoolOp .And (b :: rest) pos) mb) : SE X g W (.BoolOp .And (a :: b :: rest) pos) (eAnd ma mb) :=
  PEimp (pe_and ha hb) fun σ H Q q => rdE_mono (rdE_bindB (k := fun k ρ1 => match k with | true => mb ρ1 | false => .ok (.val (.bl false)) ρ1) q) fun x H1 ⟨c, e, q1⟩ => ⟨c, e, by
    cases c with
    | true => exact q1
    | false => exact rdE_pure q1 rep_bl⟩
theorem SE.or {rest : List Expr} (ha : SE X g W a ma) (hb : SE X g W (.BoolOp .Or (b :: rest) pos) mb) : SE X g W (.BoolOp .Or (a :: b :: rest) pos) (eOr ma mb) :=
  PEimp (pe_or ha hb) fun σ H Q q => rdE_mono (rdE_bindB (k := fun k ρ1 => match k with | true => .ok (.val (.bl true)) ρ1 | false => mb ρ1) q) fun x H1 ⟨c, e, q1⟩ => ⟨c, e, by
    cases c with
    | true => exact rdE_pure q1 rep_bl
    | false => exact q1⟩
/-! ### operators -/
def R2L (r : R2) : List V → Hp → VK → Prop := fun vs H Q => ∃ x y, vs = [x, y] ∧ r x y H Q
def R1L (r : V → Hp → VK → Prop) : List V → Hp → VK → Prop := fun vs H Q => ∃ x, vs = [x] ∧ r x H Q
theorem rdOp2 {f : List D → Option RV} {r : R2} {Q : VK} (ok : OkL g f (R2L r)) (q : rdE g W (eOp f [ma, mb]) σ H Q) : rdE g W ma σ H fun x H1 => rdE g W mb σ H1 fun y H2 => r x y H2 Q :=
  rdE_mono (rdA_cons (rdOp ok q)) fun x H1 q1 => rdE_mono (rdA_cons q1) fun y H2 q2 => by
    obtain ⟨x', y', e, h⟩ := rdA_nil q2
    cases e; exact h
theorem rdOp1 {f : List D → Option RV} {r : V → Hp → VK → Prop} {Q : VK} (ok : OkL g f (R1L r)) (q : rdE g W (eOp f [ma]) σ H Q) : rdE g W ma σ H fun x H1 => r x H1 Q :=
  rdE_mono (rdA_cons (rdOp ok q)) fun x H1 q1 => by
    obtain ⟨x', e, h⟩ := rdA_nil q1
    cases e; exact h
theorem SE.bin {op : Operator} {f : List D → Option RV} {r : R2} (ho : OpR X (binaryOp op) r) (ok : OkL g f (R2L r)) (ha : SE X g W a ma) (hb : SE X g W b mb) : SE X g W (.BinOp a op b pos) (eOp f [ma, mb]) :=
  PEimp (pe_op ho ha hb) fun σ H Q q => rdOp2 ok q
theorem SE.un {op : UnaryOp} {f : List D → Option RV} {r : V → Hp → VK → Prop} (ho : UnR X (unaryOp op) r) (ok : OkL g f (R1L r)) (ha : SE X g W a ma) : SE X g W (.UnaryOp op a pos) (eOp f [ma]) :=
  PEimp (pe_un ho ha) fun σ H Q q => rdOp1 ok q
theorem SE.not (ha : SE X g W a ma) : SE X g W (.UnaryOp .Not a pos) (eNot ma) :=
  PEimp (pe_not ha) fun σ H Q q => rdOp1 (r := fun x H Q => ∃ c, x = .bl c ∧ Q (.bl (!c)) H) (fun T ρ σ H F ds vs rv Q R t e k => by
    split at e
    · cases e
      obtain ⟨v, r, rfl, h1, h2⟩ := t
      cases h2
      exact ⟨v, rfl, _, h1, k _ H F (Sub.refl F) ⟨R, rep_bl F⟩⟩
    · cases e) q
theorem SE.cmp {op : CmpOp} {f : List D → Option RV} {r : R2} (ho : OpR X (compareOp op) r) (ok : OkL g f (R2L r)) (ha : SE X g W a ma) (hb : SE X g W b mb) (hm : notSetE b = true) : SE X g W (.Compare a [op] [b] pos) (eOp f [ma, mb]) :=
  PEimp (pe_cmpR ho ha hb (mark_ok hm)) fun σ H Q q => rdOp2 ok q
theorem ST.cmp {op : CmpOp} {f : List D → Option RV} {r : R2} (ho : OpR X (compareOp op) r) (ok : OkL g f (R2L r)) (hf : ∀ ds rv, f ds = some rv → ∃ b, rv = .val (.bl b)) (ha : SE X g W a ma) (hb : SE X g W b mb) (hm : notSetE b = true) :
    ST X g W (.Compare a [op] [b] pos) (tOf (eOp f [ma, mb])) :=
  PTimp (pt_cmpR ho ha hb (mark_ok hm)) fun σ H Q q => rdOp2 ok (rdTB (Bm.op hf) q)
end

/-! ### a op b op' c -/
def asB : Option RV → Option Bool
  | some (.val (.bl b)) => some b
  | _ => none
theorem asB_some {r : Option RV} {b : Bool} (h : asB r = some b) : r = some (.val (.bl b)) := by
  unfold asB at h
  split at h
  · cases h; rfl
  · cases h
def twoV : List OV → Option (OV × D)
  | [o, .val d] => some (o, d)
  | _ => none
theorem twoV_some {os : List OV} {p : OV × D} (h : twoV os = some p) : os = [p.1, .val p.2] := by
  unfold twoV at h
  split at h
  · cases h; rfl
  · cases h
def eChain (f f' : List D → Option RV) (ma mb mc : ME) : ME := fun ρ => (evU [ma, mb] ρ).bind fun os ρ1 => lift (twoV os) fun p => lift (getO ρ1 p.1) fun da => lift (asB (f [da, p.2])) fun k => match k with
    | true => (mc ρ1).bind fun oc ρ2 => lift (getO ρ2 oc) fun dc => lift (asB (f' [p.2, dc])) fun k' => .ok (.val (.bl k')) ρ2
    | false => .ok (.val (.bl false)) ρ1
section
variable {X : Cx} {g : Bg} {W : WX} {a b c : Expr} {ma mb mc : ME} {σ : St} {H : Hp} {pos : Pos}
theorem rdChain {f f' : List D → Option RV} {r r' : R2} {Q : VK} (ok : OkL g f (R2L r)) (ok' : OkL g f' (R2L r')) (q : rdE g W (eChain f f' ma mb mc) σ H Q) : tChain r r' (rdE g W ma) (rdE g W mb) (rdE g W mc) σ H Q := by
  have q1 : rdA g W [ma, mb] σ H fun vs H2 => ∃ x y, vs = [x, y] ∧ r x y H2 fun z H3 => ∃ k, z = .bl k ∧ (if k = true then rdE g W mc σ H3 fun w' H4 => r' y w' H4 Q else Q (.bl false) H3) := by
    obtain ⟨T, ρ, F, R, q⟩ := q
    refine ⟨T, ρ, F, R, ?_⟩
    simp only [eChain] at q
    cases e1 : evU [ma, mb] ρ with
    | no => rw [e1] at q; exact q
    | ex x ρ1 => rw [e1] at q; exact q
    | ok os ρ1 =>
      rw [e1] at q
      simp only [RF.R.bind] at q
      intro vs H1 F1 s1 ⟨R1, z⟩
      cases e0 : twoV os with
      | none => rw [e0] at q; exact q.elim
      | some p =>
        rw [e0] at q
        simp only [lift] at q
        obtain ⟨oa, db⟩ := p
        have e0 := twoV_some e0
        subst e0
        obtain ⟨x, r0, rfl, z1, y, r1, rfl, z2, rfl⟩ := z
        refine ⟨x, y, rfl, ?_⟩
        cases e2 : getO ρ1 oa with
        | none => simp only [e2] at q
        | some da =>
          simp only [e2] at q
          have z2 : Rep g.K g.mg F1 db y := z2
          have tp : Tops g H1 F1 [da, db] [x, y] := ⟨x, _, rfl, z1.top R1 (fun p hp => List.mem_append_left _ (by simp [tmps, hp])) e2, y, _, rfl, Rep.top R1.fz.sub z2, rfl⟩
          cases e3 : asB (f [da, db]) with
          | none => simp only [e3] at q
          | some k =>
            simp only [e3] at q
            obtain ⟨x', y', ee, hr⟩ := ok T ρ1 σ H1 F1 [da, db] [x, y] _ (fun z H3 => ∃ k, z = .bl k ∧ (if k = true then rdE g W mc σ H3 fun w' H4 => r' y w' H4 Q else Q (.bl false) H3)) R1.drops tp (asB_some e3) fun v H2 F2 s2 r2 => by
              cases k with
              | true =>
                refine ⟨true, r2.2, ?_⟩
                rw [if_pos rfl]
                refine ⟨T, ρ1, F2, r2.1, ?_⟩
                cases e4 : mc ρ1 with
                | no => simp only [e4] at q
                | ex x ρ2 => simp only [e4] at q; exact Xw.mono (s1.trans s2) q
                | ok oc ρ2 =>
                  simp only [e4] at q
                  intro w3 H3 F3 s3 r3
                  cases e5 : getO ρ2 oc with
                  | none => simp only [e5] at q
                  | some dc =>
                    simp only [e5] at q
                    have tp' : Tops g H3 F3 [db, dc] [y, w3] := ⟨y, _, rfl, Rep.top r3.rl.fz.sub (Rep.mono (s2.trans s3) db y z2), w3, _, rfl, r3.top e5, rfl⟩
                    cases e6 : asB (f' [db, dc]) with
                    | none => simp only [e6] at q
                    | some k' =>
                      simp only [e6] at q
                      obtain ⟨x', y', ee, hr⟩ := ok' T ρ2 σ H3 F3 [db, dc] [y, w3] _ Q r3.rl tp' (asB_some e6) fun v H4 F4 s4 r4 => q v H4 F4 (((s1.trans s2).trans s3).trans s4) r4
                      cases ee; exact hr
              | false =>
                refine ⟨false, r2.2, ?_⟩
                rw [if_neg (by decide)]
                exact q _ H2 F2 (s1.trans s2) ⟨r2.1, rep_bl F2⟩
            cases ee; exact hr
  exact rdE_mono (rdA_cons q1) fun x H1 q1 => rdE_mono (rdA_cons q1) fun y H2 q2 => by
    obtain ⟨x', y', e, h⟩ := rdA_nil q2
    cases e; exact h
theorem lastM_ok {op op' : CmpOp} {b c : Expr} (h : notSetE c = true) : lastMarks [op, op'] [b, c] = false := mark_ok h
theorem SE.chain {op op' : CmpOp} {f f' : List D → Option RV} {r r' : R2} (ho : OpR X (compareOp op) r) (ho' : OpR X (compareOp op') r') (ok : OkL g f (R2L r)) (ok' : OkL g f' (R2L r')) (ha : SE X g W a ma) (hb : SE X g W b mb) (hc : SE X g W c mc) (hm : notSetE c = true) :
    SE X g W (.Compare a [op, op'] [b, c] pos) (eChain f f' ma mb mc) :=
  PEimp (pe_chain ho ho' ha hb hc (lastM_ok hm)) fun σ H Q q => rdChain ok ok' q
theorem Bm.chain {f f' : List D → Option RV} : Bm (eChain f f' ma mb mc) := by
  intro ρ o ρ' e
  simp only [eChain] at e
  cases e1 : evU [ma, mb] ρ with
  | no => rw [e1] at e; cases e
  | ex x ρ1 => rw [e1] at e; cases e
  | ok os ρ1 =>
    rw [e1] at e
    simp only [RF.R.bind] at e
    cases e0 : twoV os with
    | none => rw [e0] at e; cases e
    | some p =>
      rw [e0] at e
      simp only [lift] at e
      cases e2 : getO ρ1 p.1 with
      | none => simp only [e2] at e; cases e
      | some da =>
        simp only [e2] at e
        cases e3 : asB (f [da, p.2]) with
        | none => simp only [e3] at e; cases e
        | some k =>
          simp only [e3] at e
          cases k with
          | false => cases e; exact ⟨_, rfl⟩
          | true =>
            cases e4 : mc ρ1 with
            | no => simp only [e4] at e; cases e
            | ex x ρ2 => simp only [e4] at e; cases e
            | ok oc ρ2 =>
              simp only [e4] at e
              cases e5 : getO ρ2 oc with
              | none => simp only [e5] at e; cases e
              | some dc =>
                simp only [e5] at e
                cases e6 : asB (f' [p.2, dc]) with
                | none => simp only [e6] at e; cases e
                | some k' => simp only [e6] at e; cases e; exact ⟨_, rfl⟩
theorem ST.chain {op op' : CmpOp} {f f' : List D → Option RV} {r r' : R2} (ho : OpR X (compareOp op) r) (ho' : OpR X (compareOp op') r') (ok : OkL g f (R2L r)) (ok' : OkL g f' (R2L r')) (ha : SE X g W a ma) (hb : SE X g W b mb) (hc : SE X g W c mc) (hm : notSetE c = true) :
    ST X g W (.Compare a [op, op'] [b, c] pos) (tOf (eChain f f' ma mb mc)) :=
  PTimp (pt_chain ho ho' ha hb hc (lastM_ok hm)) fun σ H Q q => rdChain ok ok' (rdTB Bm.chain q)
end
end RF
end
section
/-! R4: displays, stores, statements, loops, comprehensions. -/
namespace RF
open PySem L2

theorem cap_line : cap ≤ sizeLine := by decide
section
variable {g : Bg} {W : WX} {T T' : List (Addr × D)} {ρ ρ' : Env} {σ : St} {H F F' : Hp}
/-! ### what is held for good -/
theorem asV_keep {m : ME} {o : OV} (h : eKeep m ρ = .ok o ρ') : ∃ d, o = .val d := by
  simp only [eKeep] at h
  cases e : m ρ with
  | no => simp only [e, RF.R.bind] at h; cases h
  | ex x ρ1 => simp only [e, RF.R.bind] at h; cases h
  | ok o1 ρ1 =>
    simp only [e, RF.R.bind] at h
    cases e2 : keepO ρ1 o1 with
    | none => simp only [e2, lift] at h; cases h
    | some p => simp only [e2, lift] at h; cases h; exact ⟨_, rfl⟩
theorem evK_reps : ∀ {ms : List ME} {ρ ρ' : Env} {os : List OV} {vs : List V} {ds : List D} {ρ2 : Env}, evU (ms.map eKeep) ρ = .ok os ρ' → OVs g σ F os vs → getOs ρ2 os = some ds → Reps g.K g.mg F ds vs
  | [], ρ, ρ', os, vs, ds, ρ2, h, z, e => by
    simp only [List.map_nil, evU] at h; cases h
    simp only [getOs, Option.some.injEq] at e; subst e
    simp only [OVs] at z; subst z
    exact Reps.nil
  | m :: ms, ρ, ρ', os, vs, ds, ρ2, h, z, e => by
    simp only [List.map_cons, evU] at h
    cases e1 : eKeep m ρ with
    | no => simp only [e1, RF.R.bind] at h; cases h
    | ex x ρ1 => simp only [e1, RF.R.bind] at h; cases h
    | ok o ρ1 =>
      simp only [e1, RF.R.bind] at h
      cases e2 : evU (ms.map eKeep) ρ1 with
      | no => simp only [e2] at h; cases h
      | ex x ρ1 => simp only [e2] at h; cases h
      | ok os' ρ3 =>
        simp only [e2] at h; cases h
        obtain ⟨d, rfl⟩ := asV_keep e1
        obtain ⟨v, r, rfl, z1, z2⟩ := z
        simp only [getOs, getO] at e
        cases e3 : getOs ρ2 os' with
        | none => rw [e3] at e; cases e
        | some ds' =>
          rw [e3] at e; cases e
          exact Reps.cons z1 (evK_reps e2 z2 e3)
/-- behind operands that are held for good -/
theorem rdK {f : List D → Option RV} {ms : List ME} {r : List V → Hp → VK → Prop} {Q : VK}
    (ok : ∀ T ρ H F ds vs rv, Rl g T ρ σ H F → Reps g.K g.mg F ds vs → f ds = some rv → (∀ v H' F', Sub F F' → Res g T rv.ov v ρ σ H' F' → Q v H') → r vs H Q)
    (h : rdE g W (eOp f (ms.map eKeep)) σ H Q) : rdA g W (ms.map eKeep) σ H fun vs H1 => r vs H1 Q := by
  obtain ⟨T, ρ, F, R, h⟩ := h
  refine ⟨T, ρ, F, R, ?_⟩
  simp only [eOp] at h
  cases e : evU (ms.map eKeep) ρ with
  | no => rw [e] at h; exact h
  | ex x ρ1 => rw [e] at h; exact h
  | ok os ρ1 =>
    rw [e] at h
    simp only [RF.R.bind] at h
    intro vs H1 F1 s1 ⟨R1, z⟩
    cases e1 : getOs ρ1 os with
    | none => rw [e1] at h; exact h.elim
    | some ds =>
      rw [e1] at h
      simp only [lift] at h
      cases e2 : f ds with
      | none => rw [e2] at h; exact h.elim
      | some rv =>
        rw [e2] at h
        simp only [lift] at h
        exact ok T ρ1 H1 F1 ds vs rv R1.drops (evK_reps e z e1) e2 fun v H' F' s' r => h v H' F' (s1.trans s') r
theorem Res.newTup {ds : List D} {vs : List V} {p : Addr} {o : Obj} (R : Rl g T ρ σ H F) (r : Reps g.K g.mg F ds vs) (z : vs.length ≤ sizeLine) (hp : H p = none) (hd : o.dict = none) :
    Sub F (upd F p (.frz o (.tup vs))) ∧ Res g T (.val (.tup ds)) (.ref p) ρ σ (upd H p (.frz o (.tup vs))) (upd F p (.frz o (.tup vs))) := by
  have n := (R.fz.free hp).2.1
  refine ⟨Sub.up n, R.laidF hp, ?_⟩
  simp only [Rep]
  exact ⟨p, vs, rfl, .inl ⟨o, upd_same, hd⟩, z, r.mono (Sub.up n)⟩
theorem Res.newLst {ds : List D} {vs : List V} {p : Addr} (R : Rl g T ρ σ H F) (r : Reps g.K g.mg F ds vs) (z : vs.length ≤ sizeLine) (hp : H p = none) : Res g T (.fresh (.lst ds)) (.ref p) ρ σ (upd H p (.lst vs)) F :=
  ⟨p, rfl, R.laidT hp ⟨vs, upd_same, z, r⟩⟩
end
section
variable {X : Cx} {g : Bg} {W : WX} {es : List Expr} {ms : List ME} {pos : Pos}
/-- a new tuple, known to its object -/
def tTupN (t : TA) : TE := fun σ H Q => t σ H fun vs H1 => vs.length ≤ sizeLine ∧ ∀ (p : Addr) (o : Obj), H1 p = none → o.dict = none → Q (.ref p) (upd H1 p (.frz o (.tup vs)))
theorem pe_tupN {k : Nat} {t : TA} (h : PA X es t) : PE X (.Tuple es k pos) (tTupN t) := by
  refine ⟨fun pins s σ H Q I hq => ?_⟩
  refine wpAny_Tuple_spliced (thn (h.run pos pins s σ H _ I hq) fun us s1 ⟨vs, H1, I1, rv, z, q⟩ => ⟨by rw [← rv.length]; exact z, ?_⟩)
  have new : (s1.heap.push { cls := .type "tuple", data := .seq us.toArray }).get? s1.heap.objs.size = some { cls := .type "tuple", data := .seq us.toArray } := Heap.get?_push_size _ rfl
  exact ⟨.ref s1.heap.objs.size, _, I1.laid (t' := s1.toks) (fun b u e => Heap.get?_push_of_some _ e) (Nat.le_refl _) (o := .frz _ (.tup vs)) ⟨new, z, us, rv, ⟨_, new, rfl, _, rfl⟩⟩, rfl, q _ _ (I1.hok.fresh (Nat.le_refl _)) rfl⟩
theorem SE.tup {k : Nat} (h : SA X g W es (ms.map eKeep)) : SE X g W (.Tuple es k pos) (eTup ms) :=
  PEimp (pe_tupN h) fun σ H Q q => rdK (r := fun vs H Q => vs.length ≤ sizeLine ∧ ∀ (p : Addr) (o : Obj), H p = none → o.dict = none → Q (.ref p) (upd H p (.frz o (.tup vs)))) (fun T ρ H F ds vs rv R r e k => by
    split at e
    · rename_i hz
      cases e
      have z : vs.length ≤ sizeLine := by rw [← r.len]; exact Nat.le_trans hz cap_line
      refine ⟨z, fun p o hp hd => ?_⟩
      obtain ⟨s, q⟩ := Res.newTup R r z hp hd
      exact k _ _ _ s q
    · cases e) q
theorem SE.lst (h : SA X g W es (ms.map eKeep)) : SE X g W (.List es pos) (eLst ms) :=
  PEimp (pe_lst h) fun σ H Q q => rdK (r := fun vs H Q => vs.length ≤ sizeLine ∧ ∀ p, H p = none → Q (.ref p) (upd H p (.lst vs))) (fun T ρ H F ds vs rv R r e k => by
    split at e
    · rename_i hz
      cases e
      have z : vs.length ≤ sizeLine := by rw [← r.len]; exact Nat.le_trans hz cap_line
      exact ⟨z, fun p hp => k _ _ _ (Sub.refl F) (Res.newLst R r z hp)⟩
    · cases e) q
end

/-! ### stores -/
section
variable {g : Bg} {T : List (Addr × D)} {ρ ρ' : Env} {σ : St} {H F : Hp} {i : Nat} {d c : D} {v : V} {a : Addr}
theorem st_set_self (h : i < σ.length) (w : Option V) : (σ.set i w)[i]? = some w := List.getElem?_set_self h
theorem Rl.setVal (R : Rl g T ρ σ H F) (hi : i < ρ.length) (r : Rep g.K g.mg F d v) : Rl g T (ρ.set i (some (.val d))) (σ.set i (some v)) H F := by
  have hs : i < σ.length := by rw [← R.len]; exact hi
  have back : ∀ j b, Ow (ρ.set i (some (.val d))) (σ.set i (some v)) j b → Ow ρ σ j b := fun j b ⟨sv, e1, m, q⟩ => by
    by_cases hj : i = j
    · subst hj; rw [getS_set_self hi] at e1; cases e1; cases m
    · rw [getS_set_ne hj] at e1; rw [List.getElem?_set_ne hj] at q; exact ⟨sv, e1, m, q⟩
  refine ⟨R.fz, by simp [R.len], fun j sv e1 => ?_, R.tm, fun j k b o1 o2 => R.inj j k b (back j b o1) (back k b o2), fun j b o1 => R.sep j b (back j b o1), R.nd⟩
  by_cases hj : i = j
  · subst hj; rw [getS_set_self hi] at e1; cases e1; exact ⟨v, st_set_self hs _, r⟩
  · rw [getS_set_ne hj] at e1; rw [List.getElem?_set_ne hj]; exact R.sl j sv e1
theorem Rl.setNone (R : Rl g T ρ σ H F) (w : Option V) : Rl g T (ρ.set i none) (σ.set i w) H F := by
  by_cases hi : i < ρ.length
  · have back : ∀ j b, Ow (ρ.set i none) (σ.set i w) j b → Ow ρ σ j b := fun j b ⟨sv, e1, m, q⟩ => by
      by_cases hj : i = j
      · subst hj; rw [getS_set_self hi] at e1; cases e1
      · rw [getS_set_ne hj] at e1; rw [List.getElem?_set_ne hj] at q; exact ⟨sv, e1, m, q⟩
    refine ⟨R.fz, by simp [R.len], fun j sv e1 => ?_, R.tm, fun j k b o1 o2 => R.inj j k b (back j b o1) (back k b o2), fun j b o1 => R.sep j b (back j b o1), R.nd⟩
    by_cases hj : i = j
    · subst hj; rw [getS_set_self hi] at e1; cases e1
    · rw [getS_set_ne hj] at e1; rw [List.getElem?_set_ne hj]; exact R.sl j sv e1
  · rw [List.set_eq_of_length_le (Nat.le_of_not_lt hi), List.set_eq_of_length_le (by rw [← R.len]; exact Nat.le_of_not_lt hi)]; exact R
theorem Rl.setOwn (R : Rl g ((a, c) :: T) ρ σ H F) (hi : i < ρ.length) : Rl g T (ρ.set i (some (.own c))) (σ.set i (some (.ref a))) H F := by
  have hs : i < σ.length := by rw [← R.len]; exact hi
  have t := R.tm (a, c) List.mem_cons_self
  have back : ∀ j b, Ow (ρ.set i (some (.own c))) (σ.set i (some (.ref a))) j b → (j = i ∧ b = a) ∨ (j ≠ i ∧ Ow ρ σ j b) := fun j b ⟨sv, e1, m, q⟩ => by
    by_cases hj : i = j
    · subst hj; rw [st_set_self hs] at q; cases q; exact .inl ⟨rfl, rfl⟩
    · rw [getS_set_ne hj] at e1; rw [List.getElem?_set_ne hj] at q; exact .inr ⟨fun z => hj z.symm, sv, e1, m, q⟩
  refine ⟨R.fz, by simp [R.len], fun j sv e1 => ?_, fun p hp => R.tm p (List.mem_cons_of_mem _ hp), fun j k b o1 o2 => ?_, fun j b o1 => ?_, (List.nodup_cons.mp R.nd).2⟩
  · by_cases hj : i = j
    · subst hj; rw [getS_set_self hi] at e1; cases e1; exact ⟨_, st_set_self hs _, a, rfl, t⟩
    · rw [getS_set_ne hj] at e1; rw [List.getElem?_set_ne hj]; exact R.sl j sv e1
  · rcases back j b o1 with ⟨e1, e2⟩ | ⟨e1, e2⟩ <;> rcases back k b o2 with ⟨e3, e4⟩ | ⟨e3, e4⟩
    · rw [e1, e3]
    · subst e2; exact absurd (List.mem_cons_self) (R.sep k _ e4)
    · subst e4; exact absurd (List.mem_cons_self) (R.sep j _ e2)
    · exact R.inj j k b e2 e4
  · rcases back j b o1 with ⟨e1, e2⟩ | ⟨e1, e2⟩
    · subst e2; exact (List.nodup_cons.mp R.nd).1
    · exact fun hb => R.sep j b e2 (List.mem_cons_of_mem _ hb)
theorem keepO_len {p : D × Env} {o : OV} (h : keepO ρ o = some p) : p.2.length = ρ.length := by
  cases o with
  | val d => cases h; rfl
  | fresh c => cases h; rfl
  | slot j =>
    simp only [keepO] at h
    split at h
    · cases h; rfl
    · cases h; simp
    · cases h
theorem Res.put {o : OV} (h : Res g T o v ρ σ H F) (q : putS i o ρ = some ρ') : ∃ F', Sub F F' ∧ Rl g T ρ' (σ.set i (some v)) H F' := by
  unfold putS at q
  split at q
  · cases q
  · rename_i x hx
    have hi : i < ρ.length := (List.getElem?_eq_some_iff.mp hx).1
    cases o with
    | val d => cases q; exact ⟨F, Sub.refl F, h.1.setVal hi h.2⟩
    | fresh c => cases q; obtain ⟨a, rfl, R⟩ := h; exact ⟨F, Sub.refl F, R.setOwn hi⟩
    | slot j =>
      cases e : keepO ρ (.slot j) with
      | none => simp only [e] at q; cases q
      | some p =>
        simp only [e] at q
        cases q
        obtain ⟨F', s, R, r⟩ := h.keep e
        exact ⟨F', s, R.setVal (by rw [keepO_len e]; exact hi) r⟩
  · cases q
theorem Rl.putV (R : Rl g T ρ σ H F) (r : Rep g.K g.mg F d v) (q : RF.putV i d ρ = some ρ') : Rl g T ρ' (σ.set i (some v)) H F := by
  unfold RF.putV putS at q
  split at q
  · cases q
  · rename_i x hx
    cases q
    exact R.setVal (List.getElem?_eq_some_iff.mp hx).1 r
  · cases q
end

/-! ### targets -/
section
variable {X : Cx} {g : Bg} {W : WX}
/-- a target's reading -/
def gNames : List Nat → TGs
  | [] => gNil
  | i :: is => gCons (gName i) (gNames is)
def tgT (K : PySem.W.Frag) : Tg → TG
  | .nm i => gName i
  | .tp is => gTup K is.length (gNames is)
def SG (X : Cx) (g : Bg) (tg : Expr) (k : Tg) : Prop := PG X tg (tgT g.K k)
theorem names_ok : ∀ {is : List Nat} {T : List (Addr × D)} {ρ ρ' : Env} {σ : St} {H F : Hp} {ds : List D} {vs : List V} {Q : St → Hp → Prop}, Rl g T ρ σ H F → Reps g.K g.mg F ds vs → putVs is ds ρ = some ρ' →
    (∀ σ', Rl g T ρ' σ' H F → (∀ j, j ∉ is → σ'[j]? = σ[j]?) → σ'.length = σ.length → Q σ' H) → gNames is vs σ H Q
  | [], T, ρ, ρ', σ, H, F, ds, vs, Q, R, r, e, k => by
    cases ds with
    | nil =>
      simp only [putVs, Option.some.injEq] at e; subst e
      simp only [Reps] at r; subst r
      exact ⟨rfl, k σ R (fun _ _ => rfl) rfl⟩
    | cons d ds => simp [putVs] at e
  | i :: is, T, ρ, ρ', σ, H, F, ds, vs, Q, R, rp, e, k => by
    cases ds with
    | nil => simp [putVs] at e
    | cons d ds =>
      simp only [putVs] at e
      cases e1 : putV i d ρ with
      | none => rw [e1] at e; cases e
      | some ρ1 =>
        rw [e1] at e
        simp only [Reps] at rp
        obtain ⟨v, vr, rfl, r1, r2⟩ := rp
        refine ⟨v, vr, rfl, names_ok (R.putV r1 e1) r2 e fun σ' R' hj hl => k σ' R' (fun j hj' => ?_) (by rw [hl]; simp)⟩
        simp only [List.mem_cons, not_or] at hj'
        rw [hj j hj'.2, List.getElem?_set_ne (fun z => hj'.1 z.symm)]
theorem putVs_len : ∀ {is : List Nat} {ds : List D} {ρ ρ' : Env}, putVs is ds ρ = some ρ' → ds.length = is.length := by
  intro is
  induction is with
  | nil => intro ds ρ ρ' e; cases ds with
    | nil => rfl
    | cons d ds => simp [putVs] at e
  | cons i is ih => intro ds ρ ρ' e; cases ds with
    | nil => simp [putVs] at e
    | cons d ds =>
      simp only [putVs] at e
      cases e1 : putV i d ρ with
      | none => rw [e1] at e; cases e
      | some ρ1 => rw [e1] at e; simp [ih e]
theorem tgT_ok {k : Tg} {T : List (Addr × D)} {ρ ρ' : Env} {σ : St} {H F : Hp} {d : D} {v : V} {Q : St → Hp → Prop} (R : Rl g T ρ σ H F) (r : Rep g.K g.mg F d v) (e : k.put d ρ = some ρ')
    (q : ∀ σ', Rl g T ρ' σ' H F → (∀ j, j ∉ k.ix → σ'[j]? = σ[j]?) → σ'.length = σ.length → Q σ' H) : tgT g.K k v σ H Q := by
  cases k with
  | nm i => exact q _ (R.putV r e) (fun j hj => by rw [List.getElem?_set_ne (fun z => hj (by simp [Tg.ix, z]))]) (by simp)
  | tp is =>
    cases d with
    | tup ds =>
      simp only [Tg.put] at e
      simp only [Rep] at r
      obtain ⟨a, vs, rfl, sq, z, r⟩ := r
      exact ⟨a, vs, rfl, R.fz.sub.sqT sq.t, by rw [← r.len, putVs_len e], names_ok R r e q⟩
    | _ => simp [Tg.put] at e
def NmOk (X : Cx) (x : Str) (i : Nat) : Prop := X.N[i]? = some x ∧ Loc X.env.scope x ∧ (X.fn x = true ∨ X.env.scope.names.lookup x = some .local)
def namesAt (X : Cx) : List Expr → List Nat → Prop
  | [], is => is = []
  | .Name x _ :: es, is => ∃ i r, is = i :: r ∧ NmOk X x i ∧ namesAt X es r
  | _, _ => False
theorem names_pg (hN : X.N.Nodup) : ∀ {es : List Expr} {is : List Nat}, namesAt X es is → PGs X es (gNames is) := by
  intro es
  induction es with
  | nil => intro is h; simp only [namesAt] at h; subst h; exact pgs_nil
  | cons e es ih =>
    intro is h
    cases e with
    | Name x p =>
      obtain ⟨i, r, rfl, ⟨h1, h2, h3⟩, h4⟩ := h
      exact pgs_cons (pg_name hN h1 h2 h3) (ih h4) rfl
    | _ => exact (show False from h).elim
theorem names_len : ∀ {es : List Expr} {is : List Nat}, namesAt X es is → (assignEach es X.env).length = is.length ∧ (assignEach es X.env).findIdx? (·.1) = none := by
  intro es
  induction es with
  | nil => intro is h; simp only [namesAt] at h; subst h; exact ⟨rfl, rfl⟩
  | cons e es ih =>
    intro is h
    cases e with
    | Name x p =>
      obtain ⟨i, r, rfl, _, h4⟩ := h
      obtain ⟨h1, h2⟩ := ih h4
      refine ⟨?_, ?_⟩
      · show (assignEach es X.env).length + 1 = _
        rw [h1]; rfl
      · show List.findIdx? _ ((false, _) :: assignEach es X.env) = none
        rw [List.findIdx?_cons, h2]; rfl
    | _ => exact (show False from h).elim
theorem SG.nm {x : Str} {i : Nat} {pos : Pos} (hN : X.N.Nodup) (h : NmOk X x i) : SG X g (.Name x pos) (.nm i) := pg_name hN h.1 h.2.1 h.2.2
theorem SG.tp {es : List Expr} {is : List Nat} {k : Nat} {pos : Pos} (hK : X.K = g.K) (hc : X.calm = true) (hN : X.N.Nodup) (h : namesAt X es is) : SG X g (.Tuple es k pos) (.tp is) := by
  obtain ⟨h1, h2⟩ := names_len h
  unfold SG tgT
  rw [← hK]
  exact pg_tup hc (names_pg hN h) h1 h2
end

/-! ### statements -/
def Pst (g : Bg) (W : WX) (T : List (Addr × D)) (F : Hp) (E : Ends) : R Fl → Prop
  | .ok .nx ρ' => ∀ σ' H' F', Sub F F' → Rl g T ρ' σ' H' F' → E.nx σ' H'
  | .ok .bk ρ' => ∀ σ' H' F', Sub F F' → Rl g T ρ' σ' H' F' → E.bk σ' H'
  | .ok .ct ρ' => ∀ σ' H' F', Sub F F' → Rl g T ρ' σ' H' F' → E.ct σ' H'
  | .ok (.rt o) ρ' => ∀ v σ' H' F', Sub F F' → Res g T o v ρ' σ' H' F' → E.rt v H'
  | .ex e ρ' => ∀ cls d σ' H' F', Sub F F' → Rl g [] ρ' σ' H' F' → XR g H' F' e cls d → W cls d σ' H'
  | .no => False
def rdS (g : Bg) (W : WX) (m : MS) : TS := fun E σ H => ∃ T ρ F, Rl g T ρ σ H F ∧ Pst g W T F E (m ρ)
section
variable {X : Cx} {g : Bg} {W : WX} {T : List (Addr × D)} {F F' : Hp} {E : Ends}
theorem Pst.mono {r : R Fl} (s : Sub F F') (h : Pst g W T F E r) : Pst g W T F' E r := by
  cases r with
  | no => exact h
  | ex e ρ => exact fun cls d σ' H' F'' s' => h cls d σ' H' F'' (s.trans s')
  | ok f ρ =>
    cases f with
    | nx => exact fun σ' H' F'' s' => h σ' H' F'' (s.trans s')
    | bk => exact fun σ' H' F'' s' => h σ' H' F'' (s.trans s')
    | ct => exact fun σ' H' F'' s' => h σ' H' F'' (s.trans s')
    | rt o => exact fun v σ' H' F'' s' => h v σ' H' F'' (s.trans s')
theorem Pst.xw {σ : St} {e : D} {ρ' : Env} (h : Pst g W T F E (.ex e ρ')) : Xw g W σ F e ρ' := fun cls d H' F' s R x => h cls d σ H' F' s R x
def SS (X : Cx) (g : Bg) (W : WX) (st : Stmt) (m : MS) : Prop := PS X st (rdS g W m)
def SSs (X : Cx) (g : Bg) (W : WX) (st : List Stmt) (m : MS) : Prop := PSs X st (rdS g W m)
variable {st : Stmt} {sts : List Stmt} {e : Expr} {m : ME} {a b : MS} {t : MT} {pos : Pos}
theorem SS.stop : SS X g W st sStop := PSimp ps_never fun E σ H ⟨T, ρ, F, R, q⟩ => q
theorem SSs.nil : SSs X g W [] sNil := PSsimp pss_nil fun E σ H ⟨T, ρ, F, R, q⟩ => q σ H F (Sub.refl F) R
theorem SSs.cons (h : SS X g W st a) (r : SSs X g W sts b) : SSs X g W (st :: sts) (sSeq a b) := by
  refine PSsimp (pss_cons h r) fun E σ H ⟨T, ρ, F, R, q⟩ => ⟨T, ρ, F, R, ?_⟩
  simp only [sSeq] at q
  cases e1 : a ρ with
  | no => simp only [e1, RF.R.bind] at q; exact q
  | ex x ρ1 => simp only [e1, RF.R.bind] at q; exact q
  | ok f ρ1 =>
    simp only [e1, RF.R.bind] at q
    cases f with
    | nx => exact fun σ' H' F' s R' => ⟨T, ρ1, F', R', Pst.mono s q⟩
    | bk => exact q
    | ct => exact q
    | rt o => exact q
theorem SSs.one (h : SS X g W st a) : SSs X g W [st] a := pss_one h
theorem SS.pass : SS X g W (.Pass pos) sNil := PSimp ps_pass fun E σ H ⟨T, ρ, F, R, q⟩ => q σ H F (Sub.refl F) R
theorem SS.brk : SS X g W (.Break pos) sBrk := PSimp ps_break fun E σ H ⟨T, ρ, F, R, q⟩ => q σ H F (Sub.refl F) R
theorem SS.cnt : SS X g W (.Continue pos) sCnt := PSimp ps_continue fun E σ H ⟨T, ρ, F, R, q⟩ => q σ H F (Sub.refl F) R
/-- behind an expression -/
theorem rdES {k : OV → MS} {σ : St} {H : Hp} (q : rdS g W (fun ρ => (m ρ).bind fun o ρ1 => k o ρ1) E σ H) : ∃ T ρ F, Rl g T ρ σ H F ∧ match m ρ with
    | .ok o ρ1 => Pst g W T F E (k o ρ1)
    | .ex e ρ1 => Xw g W σ F e ρ1
    | .no => False := by
  obtain ⟨T, ρ, F, R, q⟩ := q
  refine ⟨T, ρ, F, R, ?_⟩
  cases e1 : m ρ with
  | no => simp only [e1, RF.R.bind] at q; exact q
  | ex x ρ1 => simp only [e1, RF.R.bind] at q; exact Pst.xw q
  | ok f ρ1 => simp only [e1, RF.R.bind] at q; exact q
theorem SS.expr (h : SE X g W e m) (hs : swapsWith e none pos.line X.env = pure false) : SS X g W (.Expr e pos) (sExp m) := by
  refine PSimp (ps_expr h hs) fun E σ H q => ?_
  obtain ⟨T, ρ, F, R, q⟩ := rdES (k := fun _ ρ1 => .ok .nx ρ1) q
  refine ⟨T, ρ, F, R, ?_⟩
  cases e1 : m ρ with
  | no => simp only [e1] at q
  | ex x ρ1 => simp only [e1] at q; exact q
  | ok o ρ1 => simp only [e1] at q; exact fun v H' F' s r => q σ H' F' s r.rl
theorem SS.ret (h : SE X g W e m) : SS X g W (.Return (some e) pos) (sRet m) := by
  refine PSimp (ps_ret h) fun E σ H q => ?_
  obtain ⟨T, ρ, F, R, q⟩ := rdES (k := fun o ρ1 => .ok (.rt o) ρ1) q
  refine ⟨T, ρ, F, R, ?_⟩
  cases e1 : m ρ with
  | no => simp only [e1] at q
  | ex x ρ1 => simp only [e1] at q; exact q
  | ok o ρ1 => simp only [e1] at q; exact fun v H' F' s r => q v σ H' F' s r
theorem SS.retN : SS X g W (.Return none pos) (sRet (eC .non)) := by
  refine PSimp ps_retN fun E σ H q => ?_
  obtain ⟨T, ρ, F, R, q⟩ := q
  exact q .non σ H F (Sub.refl F) ⟨R, rep_non F⟩
theorem SS.ite {c : Expr} {sa sb : List Stmt} (hc : ST X g W c t) (ha : SSs X g W sa a) (hb : SSs X g W sb b) : SS X g W (.If c sa sb pos) (sIf t a b) := by
  refine PSimp (ps_if hc ha hb) fun E σ H q => ?_
  obtain ⟨T, ρ, F, R, q⟩ := q
  refine ⟨T, ρ, F, R, ?_⟩
  simp only [sIf] at q
  cases e1 : t ρ with
  | no => simp only [e1, RF.R.bind] at q; exact q
  | ex x ρ1 => simp only [e1, RF.R.bind] at q; exact Pst.xw q
  | ok k ρ1 =>
    simp only [e1, RF.R.bind] at q
    intro H1 F1 s1 R1
    cases k with
    | true => exact ⟨T, ρ1, F1, R1, Pst.mono s1 q⟩
    | false => exact ⟨T, ρ1, F1, R1, Pst.mono s1 q⟩
/-- a store of what an expression gives, by the reading tAsg (gName i) -/
theorem SS.setBy {i : Nat} {st : Stmt} (h : PS X st (tAsg (rdE g W m) (gName i))) : SS X g W st (sSet i m) := by
  refine PSimp h fun E σ H q => ?_
  obtain ⟨T, ρ, F, R, q⟩ := rdES (k := fun o ρ1 => lift (putS i o ρ1) fun ρ2 => .ok .nx ρ2) q
  refine ⟨T, ρ, F, R, ?_⟩
  cases e1 : m ρ with
  | no => simp only [e1] at q
  | ex x ρ1 => simp only [e1] at q; exact q
  | ok o ρ1 =>
    simp only [e1] at q
    intro v H1 F1 s1 r1
    cases e2 : putS i o ρ1 with
    | none => simp only [e2, lift] at q; exact q.elim
    | some ρ2 =>
      simp only [e2, lift] at q
      obtain ⟨F2, s2, R2⟩ := r1.put e2
      exact q _ H1 F2 (s1.trans s2) R2
/-- a store into a target, of what is held for good -/
theorem rdPut {k : Tg} {σ : St} {H : Hp}
    (q : rdS g W (fun ρ => (eKeep m ρ).bind fun o ρ1 => lift (asV o) fun d => lift (k.put d ρ1) fun ρ2 => .ok .nx ρ2) E σ H) : rdE g W (eKeep m) σ H fun x H1 => tgT g.K k x σ H1 E.nx := by
  obtain ⟨T, ρ, F, R, q⟩ := rdES (m := eKeep m) (k := fun o ρ1 => lift (asV o) fun d => lift (k.put d ρ1) fun ρ2 => .ok .nx ρ2) q
  refine ⟨T, ρ, F, R, ?_⟩
  cases e1 : eKeep m ρ with
  | no => simp only [e1] at q
  | ex x ρ1 => simp only [e1] at q; exact q
  | ok o ρ1 =>
    simp only [e1] at q
    obtain ⟨d, rfl⟩ := asV_keep e1
    simp only [asV, lift] at q
    intro v H1 F1 s1 r1
    cases e2 : k.put d ρ1 with
    | none => simp only [e2] at q; exact q.elim
    | some ρ2 =>
      simp only [e2] at q
      exact tgT_ok r1.1 r1.2 e2 fun σ' R' _ _ => q σ' H1 F1 s1 R'
end
/-- names = a tuple that is taken apart -/
def sUnp (k : Tg) (m : ME) : MS := fun ρ => (eKeep m ρ).bind fun o ρ1 => lift (asV o) fun d => lift (k.put d ρ1) fun ρ2 => .ok .nx ρ2
section
variable {X : Cx} {g : Bg} {W : WX} {e tg : Expr} {m : ME} {pos : Pos}
theorem SS.unp {k : Tg} (h : SE X g W e m) (ht : SG X g tg k) (hs : swapsWithSole [tg] e pos.line X.env = pure false) (hw : swappedStores [tg] e X.env = pure none) (h1 : (assignEach [tg] X.env).map (·.2) = [assign tg X.env]) : SS X g W (.Assign [tg] e pos) (sUnp k m) :=
  PSimp (ps_asg (SE.keep h) ht hs hw h1) fun E σ H q => rdPut q
end

/-! ### what is walked -/
/-- J walks the items ds, frozen in F0 -/
def ItOk (g : Bg) (F0 : Hp) (J : It) (ds : List D) : Prop := ∀ (T : List (Addr × D)) (ρ : Env) (σ : St) (H F : Hp), Sub F0 F → Rl g T ρ σ H F →
  (∀ i, ds.length ≤ i → J.stop i H) ∧ ∀ i d, ds[i]? = some d → J.go i H ∧ ∀ x H', J.yld i H x H' → ∃ F', Sub F F' ∧ Rl g T ρ σ H' F' ∧ Rep g.K g.mg F' d x
theorem ItOk.mono {g : Bg} {F F' : Hp} {J : It} {ds : List D} (s : Sub F F') (h : ItOk g F J ds) : ItOk g F' J ds := fun T ρ σ H G s' R => h T ρ σ H G (s.trans s') R
def rdI (g : Bg) (W : WX) (it : MI) : TI := fun σ H R => ∃ T ρ F, Rl g T ρ σ H F ∧ match it ρ with
  | .ok xs ρ' => ∀ J H' F', Sub F F' → Rl g T ρ' σ H' F' → ItOk g F' J xs → xs.length ≤ sizeLine → R J H'
  | .ex e ρ' => Xw g W σ F e ρ'
  | .no => False
def SI (X : Cx) (g : Bg) (W : WX) (tg e : Expr) (it : MI) : Prop := PI X tg e (rdI g W it)
section
variable {X : Cx} {g : Bg} {W : WX} {e tg : Expr} {m : ME} {pos : Pos}
theorem PIimp {t t' : TI} (h : PI X tg e t) (f : ∀ σ H Q, t' σ H Q → t σ H Q) : PI X tg e t' := ⟨fun pins s σ H Q I q => h.run pins s σ H Q I (f σ H Q q)⟩
/-- behind operands that are held for good, items -/
theorem rdIK {f : List D → Option (List D)} {ms : List ME} {r : List V → Hp → (It → Hp → Prop) → Prop} {σ : St} {H : Hp} {R : It → Hp → Prop}
    (ok : ∀ T ρ H F ds vs xs, Rl g T ρ σ H F → Reps g.K g.mg F ds vs → f ds = some xs → (∀ J H' F', Sub F F' → Rl g T ρ σ H' F' → ItOk g F' J xs → xs.length ≤ sizeLine → R J H') → r vs H R)
    (h : rdI g W (iOf f ms) σ H R) : rdA g W (ms.map eKeep) σ H fun vs H1 => r vs H1 R := by
  obtain ⟨T, ρ, F, Rr, h⟩ := h
  refine ⟨T, ρ, F, Rr, ?_⟩
  simp only [iOf] at h
  cases e : evU (ms.map eKeep) ρ with
  | no => rw [e] at h; exact h
  | ex x ρ1 => rw [e] at h; exact h
  | ok os ρ1 =>
    rw [e] at h
    simp only [RF.R.bind] at h
    intro vs H1 F1 s1 ⟨R1, z⟩
    cases e1 : getOs ρ1 os with
    | none => rw [e1] at h; exact h.elim
    | some ds =>
      rw [e1] at h
      simp only [lift] at h
      cases e2 : f ds with
      | none => rw [e2] at h; exact h.elim
      | some xs =>
        rw [e2] at h
        simp only [lift] at h
        exact ok T ρ1 H1 F1 ds vs xs R1.drops (evK_reps e z e1) e2 fun J H' F' s' r i z => h J H' F' (s1.trans s') r i z
theorem rdA_one {Q : List V → Hp → Prop} {σ : St} {H : Hp} (h : rdA g W [m] σ H Q) : rdE g W m σ H fun x H1 => Q [x] H1 := rdE_mono (rdA_cons h) fun x H1 q => rdA_nil q
theorem it_list {F : Hp} {a : Addr} {ds : List D} {vs : List V} (sq : SqL g.K F a vs) (r : Reps g.K g.mg F ds vs) : ItOk g F (Itl g.K a) ds := fun T ρ σ H F' s R => by
  have q : SqL g.K H a vs := (s.trans R.fz.sub).sqL sq
  refine ⟨fun i hi => ⟨vs, q, by rw [← r.len]; exact hi⟩, fun i d hd => ?_⟩
  obtain ⟨v, hv, rv⟩ := r.get hd
  refine ⟨⟨vs, v, q, hv⟩, fun x H' ⟨e, y⟩ => ?_⟩
  subst e
  have := y vs q
  rw [hv] at this; cases this
  exact ⟨F', Sub.refl F', R, Rep.mono s d v rv⟩
theorem it_tup {F : Hp} {a : Addr} {ds : List D} {vs : List V} (sq : SqT g.K F a vs) (r : Reps g.K g.mg F ds vs) : ItOk g F (Itt g.K a) ds := fun T ρ σ H F' s R => by
  have q : SqT g.K H a vs := (s.trans R.fz.sub).sqT sq
  refine ⟨fun i hi => ⟨vs, q, by rw [← r.len]; exact hi⟩, fun i d hd => ?_⟩
  obtain ⟨v, hv, rv⟩ := r.get hd
  refine ⟨⟨vs, v, q, hv⟩, fun x H' ⟨e, y⟩ => ?_⟩
  subst e
  have := y vs q
  rw [hv] at this; cases this
  exact ⟨F', Sub.refl F', R, Rep.mono s d v rv⟩
end
end RF
end
section
/-! R5: loops, comprehensions, what is walked. -/
namespace RF
open PySem L2

section
variable {X : Cx} {g : Bg} {W : WX} {e tg iter : Expr} {m : ME} {it : MI} {b : MS} {t : MT} {pos : Pos}
theorem SS.for_ {k : Tg} {body : List Stmt} (hp : PassesOwn (model X.prog X.w) X.A X.env X.xe) (hc : X.calm = true) (hi : SI X g W tg iter it) (hg : SG X g tg k) (hb : SSs X g W body b) (hs : notSetE iter = true) : SS X g W (.For tg iter body [] pos) (sFor k it b) := by
  refine PSimp (ps_for hp hc hi hg hb (folded_ok hs)) fun E σ H q => ?_
  obtain ⟨T, ρ, F, R, q⟩ := q
  refine ⟨T, ρ, F, R, ?_⟩
  simp only [sFor] at q
  cases e1 : it ρ with
  | no => simp only [e1, RF.R.bind] at q; exact q
  | ex x ρ1 => simp only [e1, RF.R.bind] at q; exact Pst.xw q
  | ok xs ρ1 =>
    simp only [e1, RF.R.bind] at q
    intro J H1 F1 s1 R1 iok _
    refine ⟨fun i n σ H => n = xs.length - i ∧ i ≤ xs.length ∧ ∃ ρ F, Sub F1 F ∧ Rl g T ρ σ H F ∧ Pst g W T F E (goFor k b (xs.drop i) ρ), ⟨xs.length, by simp, Nat.zero_le _, ρ1, F1, Sub.refl _, R1, Pst.mono s1 q⟩, ?_⟩
    rintro i n σ H ⟨rfl, hi, ρ, F, sF, R, p⟩
    obtain ⟨ks, kg⟩ := iok T ρ σ H F sF R
    by_cases hlt : i < xs.length
    · have hx : xs[i]? = some xs[i] := by simp [hlt]
      obtain ⟨go, yl⟩ := kg i xs[i] hx
      refine .inr ⟨go, fun σ' H' => ∃ ρ' F', Sub F1 F' ∧ Rl g T ρ' σ' H' F' ∧ Pst g W T F' E (goFor k b (xs.drop (i + 1)) ρ'), fun σ' H' ⟨ρ', F', a1, a2, a3⟩ => ⟨xs.length - (i + 1), by omega, rfl, hlt, ρ', F', a1, a2, a3⟩, fun x H' y => ?_⟩
      obtain ⟨F2, s2, R2, rp⟩ := yl x H' y
      rw [List.drop_eq_getElem_cons hlt] at p
      simp only [goFor] at p
      cases e2 : k.put xs[i] ρ with
      | none => simp only [e2, lift] at p; exact p.elim
      | some ρ2 =>
        simp only [e2, lift] at p
        refine tgT_ok R2 rp e2 fun σ' R' _ _ => ⟨T, ρ2, F2, R', ?_⟩
        have p := Pst.mono s2 p
        cases e3 : b ρ2 with
        | no => simp only [e3, RF.R.bind] at p; exact p
        | ex x ρ3 => simp only [e3, RF.R.bind] at p; exact p
        | ok f ρ3 =>
          simp only [e3, RF.R.bind] at p
          cases f with
          | nx => exact fun σ3 H3 F3 s3 R3 => ⟨ρ3, F3, (sF.trans s2).trans s3, R3, Pst.mono s3 p⟩
          | ct => exact fun σ3 H3 F3 s3 R3 => ⟨ρ3, F3, (sF.trans s2).trans s3, R3, Pst.mono s3 p⟩
          | bk => exact p
          | rt o => exact p
    · have e0 : i = xs.length := by omega
      subst e0
      rw [List.drop_length] at p
      exact .inl ⟨ks _ (Nat.le_refl _), p σ H F (Sub.refl F) R⟩
theorem SS.while_ {c : Expr} {body : List Stmt} {n : Nat} (hp : PassesOwn (model X.prog X.w) X.A X.env X.xe) (hc : ST X g W c t) (hb : SSs X g W body b) : SS X g W (.While c body [] pos) (sWhile n t b) := by
  refine PSimp (ps_while hp hc hb) fun E σ H q => ?_
  obtain ⟨T, ρ, F, R, q⟩ := q
  refine ⟨fun n σ H => ∃ ρ F, Rl g T ρ σ H F ∧ Pst g W T F E (goWhile t b n ρ), ⟨n, ρ, F, R, q⟩, ?_⟩
  rintro n σ H ⟨ρ, F, R, q⟩
  refine ⟨T, ρ, F, R, ?_⟩
  cases n with
  | zero => exact q.elim
  | succ n =>
    simp only [goWhile] at q
    cases e1 : t ρ with
    | no => simp only [e1, RF.R.bind] at q; exact q
    | ex x ρ1 => simp only [e1, RF.R.bind] at q; exact Pst.xw q
    | ok k ρ1 =>
      simp only [e1, RF.R.bind] at q
      intro H1 F1 s1 R1
      cases k with
      | false => rw [if_neg (by decide)]; exact q σ H1 F1 s1 R1
      | true =>
        rw [if_pos rfl]
        refine ⟨fun σ' H' => ∃ ρ' F', Rl g T ρ' σ' H' F' ∧ Pst g W T F' E (goWhile t b n ρ'), fun σ' H' h => ⟨n, Nat.lt_succ_self n, h⟩, T, ρ1, F1, R1, ?_⟩
        have q := Pst.mono s1 q
        cases e2 : b ρ1 with
        | no => simp only [e2] at q; exact q
        | ex x ρ2 => simp only [e2] at q; exact q
        | ok f ρ2 =>
          simp only [e2] at q
          cases f with
          | nx => exact fun σ3 H3 F3 s3 R3 => ⟨ρ2, F3, R3, Pst.mono s3 q⟩
          | ct => exact fun σ3 H3 F3 s3 R3 => ⟨ρ2, F3, R3, Pst.mono s3 q⟩
          | bk => exact q
          | rt o => exact q
end

/-! ### comprehensions -/
section
variable {g : Bg} {T T1 : List (Addr × D)} {ρ ρ1 ρ2 : Env} {σ : St} {H H1 F F1 : Hp}
theorem Rl.wipe (R : Rl g T ρ σ H F) : ∀ vs : List Nat, Rl g T (wipeE ρ vs) (L2.wipe σ vs) H F
  | [] => R
  | v :: vs => (R.wipe vs).setNone none
theorem wipeE_len : ∀ vs : List Nat, (wipeE ρ vs).length = ρ.length
  | [] => rfl
  | v :: vs => by simp [wipeE, wipeE_len vs]
theorem wipe_out' {i : Nat} : ∀ {vs : List Nat}, i ∉ vs → (L2.wipe σ vs)[i]? = σ[i]?
  | [], _ => rfl
  | v :: vs, h => by
    simp only [List.mem_cons, not_or] at h
    unfold L2.wipe
    rw [List.getElem?_set_ne (fun e => h.1 e.symm), wipe_out' h.2]
theorem backE_out {i : Nat} : ∀ {vs : List Nat}, i ∉ vs → (backE ρ1 ρ2 vs)[i]? = ρ2[i]?
  | [], _ => rfl
  | v :: vs, h => by
    simp only [List.mem_cons, not_or] at h
    unfold backE
    rw [List.getElem?_set_ne (fun e => h.1 e.symm), backE_out h.2]
theorem backE_len : ∀ vs : List Nat, (backE ρ1 ρ2 vs).length = ρ2.length
  | [] => rfl
  | v :: vs => by simp [backE, backE_len vs]
theorem backE_in {i : Nat} : ∀ {vs : List Nat}, i ∈ vs → i < ρ2.length → (backE ρ1 ρ2 vs)[i]? = some (ρ1[i]?.getD none)
  | v :: vs, h, hl => by
    unfold backE
    by_cases e : v = i
    · subst e; rw [List.getElem?_set_self (by rw [backE_len]; exact hl)]
    · rw [List.getElem?_set_ne e]
      rcases List.mem_cons.mp h with e' | h'
      · exact absurd e'.symm e
      · exact backE_in h' hl
theorem plainAt_in {i : Nat} : ∀ {vs : List Nat}, plainAt ρ vs = true → i ∈ vs → ρ[i]? = some none ∨ ∃ d, ρ[i]? = some (some (.val d))
  | v :: vs, h, hi => by
    simp only [plainAt, Bool.and_eq_true] at h
    rcases List.mem_cons.mp hi with e | hi
    · subst e
      have h1 := h.1
      split at h1
      · rename_i e; exact .inl e
      · rename_i d e; exact .inr ⟨d, e⟩
      · cases h1
    · exact plainAt_in h.2 hi
theorem Rl.back {vs : List Nat} (R : Rl g T ρ2 (L2.wipe σ vs) H F) (R1 : Rl g T1 ρ1 σ H1 F1) (s : Sub F1 F) (hp : plainAt ρ1 vs = true) : Rl g T (backE ρ1 ρ2 vs) σ H F := by
  have hl : ρ2.length = ρ1.length := by rw [R.len, R1.len, wipe_length]
  have out : ∀ i, i ∉ vs → getS (backE ρ1 ρ2 vs) i = getS ρ2 i := fun i hi => by unfold getS; rw [backE_out hi]
  have ins : ∀ i sv, i ∈ vs → getS (backE ρ1 ρ2 vs) i = some sv → ∃ d, sv = .val d ∧ getS ρ1 i = some (.val d) := fun i sv hi e => by
    have hlt : i < ρ2.length := by
      rw [hl]
      rcases plainAt_in hp hi with z | ⟨d, z⟩ <;> exact (List.getElem?_eq_some_iff.mp z).1
    unfold getS at e
    rw [backE_in hi hlt] at e
    rcases plainAt_in hp hi with z | ⟨d, z⟩
    · rw [z] at e; cases e
    · rw [z] at e; cases e; exact ⟨d, rfl, by unfold getS; rw [z]⟩
  have back : ∀ i a, Ow (backE ρ1 ρ2 vs) σ i a → Ow ρ2 (L2.wipe σ vs) i a := fun i a ⟨sv, e1, m, q⟩ => by
    by_cases hi : i ∈ vs
    · obtain ⟨d, rfl, _⟩ := ins i sv hi e1; cases m
    · exact ⟨sv, by rw [← out i hi]; exact e1, m, by rw [wipe_out' hi]; exact q⟩
  refine ⟨R.fz, by rw [backE_len, hl, R1.len], fun i sv e1 => ?_, R.tm, fun i j a o1 o2 => R.inj i j a (back i a o1) (back j a o2), fun i a o1 => R.sep i a (back i a o1), R.nd⟩
  by_cases hi : i ∈ vs
  · obtain ⟨d, rfl, e2⟩ := ins i sv hi e1
    obtain ⟨v, q, z⟩ := R1.sl i _ e2
    exact ⟨v, q, Rep.mono s d v z⟩
  · rw [out i hi] at e1
    obtain ⟨v, q, z⟩ := R.sl i sv e1
    rw [wipe_out' hi] at q
    exact ⟨v, q, z⟩
/-- a temporary list grows -/
theorem Rl.growT {a : Addr} {ds : List D} {d : D} {y : V} (R : Rl g ((a, .lst ds) :: T) ρ σ H F) (r : Rep g.K g.mg F d y) (hz : ds.length < sizeLine) : ∃ acc, H a = some (.lst acc) ∧ acc.length < sizeLine ∧ Rl g ((a, .lst (ds ++ [d])) :: T) ρ σ (upd H a (.lst (acc ++ [y]))) F := by
  have t := R.tm _ List.mem_cons_self
  obtain ⟨n, n0, acc, e, z, rp⟩ := t
  have hb : a ∉ g.B := fun hb => by
    obtain ⟨_, ⟨u, e⟩, _⟩ := R.fz.bor a hb
    rw [n0] at e; cases e
  have hl : acc.length < sizeLine := by rw [← rp.len]; exact hz
  refine ⟨acc, e, hl, ⟨⟨fun b u q => ?_, R.fz.f0, R.fz.new, fun b u q hb' => ?_, R.fz.par, fun b hb' => ?_⟩, R.len, fun i sv q => ?_, fun p hp => ?_, R.inj, R.sep, R.nd⟩⟩
  · rw [upd_ne (fun z : b = a => by rw [z, n] at q; cases q)]; exact R.fz.sub b u q
  · rw [upd_ne (fun z : b = a => by rw [z, n0] at q; cases q)]; exact R.fz.keep b u q hb'
  · have ne : b ≠ a := fun z => hb (by rw [← z]; exact hb')
    rw [upd_ne ne]; exact R.fz.bor b hb'
  · obtain ⟨v, hv, z⟩ := R.sl i sv q
    refine ⟨v, hv, z.move (Sub.refl F) fun b eb mb => ?_⟩
    subst eb
    have ow : Ow ρ σ i b := ⟨sv, q, mb, hv⟩
    exact ⟨upd_ne (fun z => R.sep i b ow (by rw [z]; simp)), (R.ow ow).2⟩
  · rcases List.mem_cons.mp hp with rfl | hp
    · exact ⟨n, n0, acc ++ [y], upd_same, by simp; omega, rp.append (Reps.cons r Reps.nil)⟩
    · have t := R.tm p (List.mem_cons_of_mem _ hp)
      have ne : p.1 ≠ a := fun z => (List.nodup_cons.mp R.nd).1 (by
        show a ∈ _
        rw [← z]; exact List.mem_map_of_mem hp)
      exact t.move (upd_ne ne) (Sub.refl F) t.1
end
abbrev W0 : WX := fun _ _ _ _ => False
def STs (X : Cx) (g : Bg) (W : WX) (ifs : List Expr) (t : MT) : Prop := PTs X ifs (rdT g W t)
section
variable {X : Cx} {g : Bg} {W : WX} {e elt tg iter : Expr} {m : ME} {it : MI} {t : MT} {pos : Pos} {σ : St} {H : Hp} {Q : VK}
theorem STs.nil : STs X g W [] RF.tYes := ⟨fun pins s σ H Q I q => pts_nil.run pins s σ H Q I (by
  obtain ⟨T, ρ, F, R, q⟩ := q
  exact q H F (Sub.refl F) R)⟩
theorem STs.one (h : ST X g W e t) : STs X g W [e] t := pts_one h
def FinLc (g : Bg) (T : List (Addr × D)) (A : Addr) (τ : St) (Q : VK) (acc : List D) (F : Hp) : RF.R (List D) → Prop
  | .ok ys ρ2 => ∀ H' F', Sub F F' → Rl g ((A, .lst (acc ++ ys)) :: T) ρ2 τ H' F' → Q (.ref A) H'
  | _ => False
theorem rdLc {vs : List Nat} {k : Tg} (hk : ∀ j ∈ k.ix, j ∈ vs) (q : rdE g W (eLc vs it k t m) σ H Q) : tLc (rdI g W it) (tgT g.K k) (rdT g W0 t) (rdE g W0 (eKeep m)) vs σ H Q := by
  obtain ⟨T, ρ, F, R, q⟩ := q
  refine ⟨T, ρ, F, R, ?_⟩
  simp only [eLc] at q
  cases e1 : it ρ with
  | no => simp only [e1, RF.R.bind] at q
  | ex x ρ1 => simp only [e1, RF.R.bind] at q; exact q
  | ok xs ρ1 =>
    simp only [e1, RF.R.bind] at q
    intro J H1 F1 s1 R1 iok hxs A hA
    cases hp : plainAt ρ1 vs with
    | false => simp only [hp] at q
    | true =>
      simp only [hp] at q
      have Fmono : ∀ {acc F F' r}, Sub F F' → FinLc g T A (L2.wipe σ vs) Q acc F r → FinLc g T A (L2.wipe σ vs) Q acc F' r := fun {acc F F' r} s h => by
        cases r with
        | ok ys ρ2 => exact fun H' F'' s' => h H' F'' (s.trans s')
        | ex _ _ => exact h
        | no => exact h
      have f0 : FinLc g T A (L2.wipe σ vs) Q [] F1 (goLc vs k t m xs (wipeE ρ1 vs)) := by
        cases e2 : goLc vs k t m xs (wipeE ρ1 vs) with
        | no => simp only [e2, calmly] at q
        | ex x ρ2 => simp only [e2, calmly] at q
        | ok ys ρ2 =>
          simp only [e2, calmly] at q
          intro H2 F2 s2 R2
          exact q (.ref A) H2 F2 (s1.trans s2) ⟨A, rfl, R2.back R1 s2 hp⟩
      refine ⟨fun i n H => n = xs.length - i ∧ i ≤ xs.length ∧ ∃ ρ F acc, Sub F1 F ∧ Rl g ((A, .lst acc) :: T) ρ (L2.wipe σ vs) H F ∧ acc.length ≤ i ∧ FinLc g T A (L2.wipe σ vs) Q acc F (goLc vs k t m (xs.drop i) ρ),
        ⟨xs.length, by simp, Nat.zero_le _, wipeE ρ1 vs, F1, [], Sub.refl _, (R1.wipe vs).laidT hA ⟨[], upd_same, Nat.zero_le _, Reps.nil⟩, Nat.le_refl _, f0⟩, ?_⟩
      rintro i n H ⟨rfl, hi, ρ, F, acc, sF, R, ha, p⟩
      obtain ⟨ks, kg⟩ := iok _ ρ _ H F sF R
      by_cases hlt : i < xs.length
      · have hx : xs[i]? = some xs[i] := by simp [hlt]
        obtain ⟨go, yl⟩ := kg i xs[i] hx
        refine .inr ⟨go, fun H' => ∃ ρ F acc, Sub F1 F ∧ Rl g ((A, .lst acc) :: T) ρ (L2.wipe σ vs) H' F ∧ acc.length ≤ i + 1 ∧ FinLc g T A (L2.wipe σ vs) Q acc F (goLc vs k t m (xs.drop (i + 1)) ρ), fun H' h => ⟨xs.length - (i + 1), by omega, rfl, hlt, h⟩, fun x H' y => ?_⟩
        obtain ⟨F2, s2, R2, rp⟩ := yl x H' y
        rw [List.drop_eq_getElem_cons hlt] at p
        simp only [goLc] at p
        cases e2 : k.put xs[i] ρ with
        | none => simp only [e2, lift] at p; exact p.elim
        | some ρ2 =>
          simp only [e2, lift] at p
          refine tgT_ok R2 rp e2 fun σ2 R' hj hl => ⟨?_, ?_⟩
          · -- the block's own names alone have changed
            have hlen : ∀ {τ τ' : St}, τ.length = τ'.length → (∀ j, j ∉ vs → τ[j]? = τ'[j]?) → L2.wipe τ vs = L2.wipe τ' vs := by
              intro τ τ' h1 h2
              refine List.ext_getElem? fun j => ?_
              by_cases hv : j ∈ vs
              · have : ∀ {υ : St} {ws : List Nat}, j ∈ ws → j < υ.length → (L2.wipe υ ws)[j]? = some none := by
                  intro υ ws
                  induction ws with
                  | nil => intro h _; cases h
                  | cons w ws ih =>
                    intro h hl
                    unfold L2.wipe
                    by_cases ew : w = j
                    · subst ew; rw [List.getElem?_set_self (by rw [wipe_length]; exact hl)]
                    · rw [List.getElem?_set_ne ew]
                      rcases List.mem_cons.mp h with z | z
                      · exact absurd z.symm ew
                      · exact ih z hl
                by_cases hb : j < τ.length
                · rw [this hv hb, this hv (by rw [← h1]; exact hb)]
                · rw [List.getElem?_eq_none (by rw [wipe_length]; omega), List.getElem?_eq_none (by rw [wipe_length]; omega)]
              · rw [wipe_out' hv, wipe_out' hv, h2 j hv]
            refine hlen (by rw [hl, wipe_length]) fun j hv => ?_
            rw [hj j (fun z => hv (hk j z)), wipe_out' hv]
          · refine ⟨_, ρ2, F2, R', ?_⟩
            have p := Fmono s2 p
            have wp : L2.wipe σ2 vs = L2.wipe σ vs := by
              refine List.ext_getElem? fun j => ?_
              by_cases hv : j ∈ vs
              · have : ∀ {υ : St} {ws : List Nat}, j ∈ ws → j < υ.length → (L2.wipe υ ws)[j]? = some none := by
                  intro υ ws
                  induction ws with
                  | nil => intro h _; cases h
                  | cons w ws ih =>
                    intro h hl
                    unfold L2.wipe
                    by_cases ew : w = j
                    · subst ew; rw [List.getElem?_set_self (by rw [wipe_length]; exact hl)]
                    · rw [List.getElem?_set_ne ew]
                      rcases List.mem_cons.mp h with z | z
                      · exact absurd z.symm ew
                      · exact ih z hl
                rw [wipe_length] at hl
                by_cases hb : j < σ.length
                · rw [this hv (by omega), this hv hb]
                · rw [List.getElem?_eq_none (by rw [wipe_length]; omega), List.getElem?_eq_none (by rw [wipe_length]; omega)]
              · rw [wipe_out' hv, wipe_out' hv, hj j (fun z => hv (hk j z)), wipe_out' hv]
            cases e3 : t ρ2 with
            | no => simp only [e3, RF.R.bind] at p; exact p.elim
            | ex x ρ3 => simp only [e3, RF.R.bind] at p; exact p.elim
            | ok c ρ3 =>
              simp only [e3, RF.R.bind] at p
              intro H3 F3 s3 R3
              cases c with
              | false =>
                rw [if_neg (by decide)]
                refine ⟨wipeE ρ3 vs, F3, acc, (sF.trans s2).trans s3, ?_, by omega, Fmono s3 p⟩
                rw [← wp]; exact R3.wipe vs
              | true =>
                rw [if_pos rfl]
                refine ⟨_, ρ3, F3, R3, ?_⟩
                have p := Fmono s3 p
                cases e4 : eKeep m ρ3 with
                | no => simp only [e4] at p; exact p.elim
                | ex x ρ4 => simp only [e4] at p; exact p.elim
                | ok o ρ4 =>
                  simp only [e4] at p
                  obtain ⟨d, rfl⟩ := asV_keep e4
                  simp only [asV, lift] at p
                  intro y H4 F4 s4 r4
                  obtain ⟨acc', ea, la, R5⟩ := r4.1.growT r4.2 (show acc.length < sizeLine by omega)
                  refine ⟨acc', ea, la, wipeE ρ4 vs, F4, acc ++ [d], ((sF.trans s2).trans s3).trans s4, ?_, by simp; omega, ?_⟩
                  · rw [← wp]; exact R5.wipe vs
                  · have p := Fmono s4 p
                    cases e5 : goLc vs k t m (xs.drop (i + 1)) (wipeE ρ4 vs) with
                    | no => simp only [e5] at p; exact p
                    | ex x ρ5 => simp only [e5] at p; exact p
                    | ok ys ρ5 =>
                      simp only [e5] at p
                      intro H5 F5 s5 R6
                      refine p H5 F5 s5 ?_
                      rw [List.append_assoc] at R6; exact R6
      · have e0 : i = xs.length := by omega
        subst e0
        rw [List.drop_length] at p
        simp only [goLc] at p
        refine .inl ⟨ks _ (Nat.le_refl _), p H F (Sub.refl F) ?_⟩
        rw [List.append_nil]; exact R
theorem SE.lc {k : Tg} {ifs : List Expr} {scope : Scope} {own : List (Str × Nat)} (hc : X.calm = true) (hN : X.N.Nodup) (hi : SI X g W tg iter it) (ok : BlkOk X.N X.env.scope scope own) (hk : ∀ j ∈ k.ix, j ∈ own.map (·.2))
    (hg : ∀ s H C cl fp, SG (X.blk s H scope (compEnvC scope cl C X.env) fp) g tg k) (ht : ∀ s H C cl fp, STs (X.blk s H scope (compEnvC scope cl C X.env) fp) g W0 ifs t) (he : ∀ s H C cl fp, SE (X.blk s H scope (compEnvC scope cl C X.env) fp) g W0 elt m) (hs : notSetE iter = true) :
    SE X g W (.ListComp elt [⟨tg, iter, ifs, 0⟩] scope pos) (eLc (own.map (·.2)) it k t m) :=
  PEimp (pe_lc hc hN hi ok hg ht (fun s H C cl fp => SE.keep (he s H C cl fp)) (folded_ok hs)) fun σ H Q q => rdLc hk q
/-- name = [..] in one row -/
theorem SS.setLc {k : Tg} {ifs : List Expr} {scope : Scope} {own : List (Str × Nat)} {i : Nat} {y : Str} {py spos : Pos} (hc : X.calm = true) (hN : X.N.Nodup) (hy : X.N[i]? = some y) (hyl : X.env.scope.names.lookup y = some .local)
    (hsw : swapsWith (.ListComp elt [⟨tg, iter, ifs, 0⟩] scope pos) (some (.Name y py)) spos.line X.env = pure true)
    (hi : SI X g W tg iter it) (ok : BlkOk X.N X.env.scope scope own) (hk : ∀ j ∈ k.ix, j ∈ own.map (·.2))
    (hg : ∀ s H C cl fp, SG (X.blk s H scope (compEnvC scope cl C X.env) fp) g tg k) (ht : ∀ s H C cl fp, STs (X.blk s H scope (compEnvC scope cl C X.env) fp) g W0 ifs t) (he : ∀ s H C cl fp, SE (X.blk s H scope (compEnvC scope cl C X.env) fp) g W0 elt m) (hs : notSetE iter = true) :
    SS X g W (.Assign [.Name y py] (.ListComp elt [⟨tg, iter, ifs, 0⟩] scope pos) spos) (sSet i (eLc (own.map (·.2)) it k t m)) :=
  SS.setBy (PSimp (ps_setLc hc hN hy hyl hsw hi ok hg ht (fun s H C cl fp => SE.keep (he s H C cl fp)) (folded_ok hs)) fun E σ H q => rdLc hk q)
end
end RF
end
section
/-! R6: defs and their calls. -/
namespace RF
open PySem L2

/-! ### what a def promises -/
def ArgOk (K : PySem.W.Frag) (mg : Mg) (H F : Hp) : Bool → D → V → Prop
  | false, d, v => Rep K mg F d v
  | true, c, v => ∃ a, v = .ref a ∧ F a = none ∧ At K mg H F c a
def ArgsOk (K : PySem.W.Frag) (mg : Mg) (H F : Hp) : List Bool → List D → List V → Prop
  | [], ds, vs => ds = [] ∧ vs = []
  | m :: ms, ds, vs => ∃ d dr v vr, ds = d :: dr ∧ vs = v :: vr ∧ ArgOk K mg H F m d v ∧ ArgsOk K mg H F ms dr vr
/-- the addresses that are lent -/
def bor1 : Bool → V → List Addr
  | true, .ref a => [a]
  | _, _ => []
def borA : List Bool → List V → List Addr
  | m :: ms, v :: vs => bor1 m v ++ borA ms vs
  | _, _ => []
def OutsOk (K : PySem.W.Frag) (mg : Mg) (H F : Hp) : List Bool → List D → List V → Prop
  | [], cs, vs => cs = [] ∧ vs = []
  | false :: ms, cs, vs => ∃ v vr, vs = v :: vr ∧ OutsOk K mg H F ms cs vr
  | true :: ms, cs, vs => ∃ c cr v vr, cs = c :: cr ∧ vs = v :: vr ∧ (∃ a, v = .ref a ∧ At K mg H F c a) ∧ OutsOk K mg H F ms cr vr
structure Post (K : PySem.W.Frag) (mg : Mg) (H F H' F' : Hp) (ms : List Bool) (vs : List V) (outs : List D) : Prop where
  f : Sub F F'
  s : Sub F' H'
  new : ∀ a o, F' a = some o → F a = none → H a = none
  keep : ∀ a o, H a = some o → a ∉ borA ms vs → H' a = some o
  outs : OutsOk K mg H' F' ms outs vs
def RetOk (K : PySem.W.Frag) (mg : Mg) (H H' F' : Hp) : Bool → D → V → Prop
  | false, d, v => Rep K mg F' d v
  | true, c, v => ∃ a, v = .ref a ∧ H a = none ∧ F' a = none ∧ At K mg H' F' c a
def XRk (K : PySem.W.Frag) (mg : Mg) (H F : Hp) : D → Value → Option Addr → Prop
  | .obj c ns ds, cls, d => ∃ C, mg c = some (.ref C) ∧ cls = .ref C ∧ ((ns = [] ∧ ds = [] ∧ d = none) ∨ ∃ dd fs, d = some dd ∧ H dd = some (.xd fs) ∧ fs.map (·.1) = ns ∧ Reps K mg F ds (fs.map (·.2)))
  | _, _, _ => False
def spR (K : PySem.W.Frag) (mg : Mg) (ms : List Bool) (vs : List V) (H F : Hp) (Q : VK) (E : XK) : FR → Prop
  | .ret fr d outs => ∀ v H' F', Post K mg H F H' F' ms vs outs → RetOk K mg H H' F' fr d v → Q v H'
  | .ex e outs => ∀ cls dd H' F', Post K mg H F H' F' ms vs outs → XRk K mg H' F' e cls dd → E cls dd H'
  | .no => False
def spF (K : PySem.W.Frag) (mg : Mg) (f : FunSem) : Sp := fun vs H Q E => ∃ (F : Hp) (ds : List D), Sub F H ∧ ArgsOk K mg H F f.modes ds vs ∧ (borA f.modes vs).Nodup ∧ spR K mg f.modes vs H F Q E (f.run ds)
theorem ArgsOk.len {K : PySem.W.Frag} {mg : Mg} {H F : Hp} : ∀ {ms : List Bool} {ds : List D} {vs : List V}, ArgsOk K mg H F ms ds vs → vs.length = ms.length ∧ ds.length = ms.length
  | [], _, _, h => by obtain ⟨rfl, rfl⟩ := h; exact ⟨rfl, rfl⟩
  | m :: ms, _, _, h => by
    obtain ⟨d, dr, v, vr, rfl, rfl, _, h⟩ := h
    obtain ⟨h1, h2⟩ := h.len
    simp [h1, h2]
theorem spF.len {K : PySem.W.Frag} {mg : Mg} {f : FunSem} {vs : List V} {H : Hp} {Q : VK} {E : XK} (h : spF K mg f vs H Q E) : vs.length = f.modes.length := by
  obtain ⟨F, ds, _, h, _⟩ := h
  exact h.len.1

/-! ### the caller's side -/
def outAt : List Bool → List OV → List D → Nat → Option D
  | false :: ms, _ :: os, cs, j => outAt ms os cs j
  | true :: ms, .slot i :: os, c :: cs, j => if i = j then some c else outAt ms os cs j
  | true :: ms, _ :: os, _ :: cs, j => outAt ms os cs j
  | _, _, _, _ => none
section
variable {g : Bg} {W : WX} {T : List (Addr × D)} {ρ ρ' ρ2 : Env} {σ : St} {H H' F F' : Hp}
theorem outAt_not : ∀ {ms : List Bool} {os : List OV} {l : List Nat} {cs : List D} {j : Nat}, lentOk ms os l = true → j ∈ l → outAt ms os cs j = none
  | [], os, l, cs, j, h, hj => by cases os <;> simp [outAt]
  | false :: ms, os, l, cs, j, h, hj => by
    cases os with
    | nil => simp [outAt]
    | cons o os =>
      cases o with
      | val d => simp only [lentOk] at h; simp only [outAt]; exact outAt_not h hj
      | slot i => simp [lentOk] at h
      | fresh c => simp [lentOk] at h
  | true :: ms, os, l, cs, j, h, hj => by
    cases os with
    | nil => simp [outAt]
    | cons o os =>
      cases o with
      | val d => simp [lentOk] at h
      | slot i =>
        simp only [lentOk, Bool.and_eq_true, Bool.not_eq_true', List.contains_eq_mem, decide_eq_false_iff_not] at h
        cases cs with
        | nil => simp [outAt]
        | cons c cs =>
          simp only [outAt]
          rw [if_neg (fun e : i = j => h.1 (by rw [e]; exact hj))]
          exact outAt_not h.2 (List.mem_cons_of_mem _ hj)
      | fresh c =>
        simp only [lentOk] at h
        cases cs with
        | nil => simp [outAt]
        | cons c' cs => simp only [outAt]; exact outAt_not h hj
theorem putOuts_get : ∀ {ms : List Bool} {os : List OV} {l : List Nat} {cs : List D} {ρ ρ2 : Env} (j : Nat), lentOk ms os l = true → putOuts ms os cs ρ = some ρ2 →
    ρ2.length = ρ.length ∧ (∀ c, outAt ms os cs j = some c → (∃ c0, getS ρ j = some (.own c0) ∧ getS ρ2 j = some (.own c)) ∨ ∃ c0, getS ρ j = some (.bor c0) ∧ getS ρ2 j = some (.bor c)) ∧ (outAt ms os cs j = none → getS ρ2 j = getS ρ j)
  | [], os, l, cs, ρ, ρ2, j, h, e => by
    cases os with
    | nil =>
      cases cs with
      | nil => simp only [putOuts, Option.some.injEq] at e; subst e; exact ⟨rfl, fun c h => by simp [outAt] at h, fun _ => rfl⟩
      | cons c cs => simp [putOuts] at e
    | cons o os => simp [putOuts] at e
  | false :: ms, os, l, cs, ρ, ρ2, j, h, e => by
    cases os with
    | nil => simp [putOuts] at e
    | cons o os =>
      cases o with
      | val d => simp only [lentOk] at h; simp only [putOuts] at e; simp only [outAt]; exact putOuts_get j h e
      | slot i => simp [lentOk] at h
      | fresh c => simp [lentOk] at h
  | true :: ms, os, l, cs, ρ, ρ2, j, h, e => by
    cases os with
    | nil => simp [putOuts] at e
    | cons o os =>
      cases cs with
      | nil => cases o <;> simp [putOuts] at e
      | cons c cs =>
        simp only [putOuts] at e
        cases e1 : putOut o c ρ with
        | none => rw [e1] at e; cases e
        | some ρ1 =>
          rw [e1] at e
          cases o with
          | val d => simp [lentOk] at h
          | fresh c' =>
            simp only [lentOk] at h
            simp only [putOut, Option.some.injEq] at e1; subst e1
            simp only [outAt]; exact putOuts_get j h e
          | slot i =>
            simp only [lentOk, Bool.and_eq_true] at h
            obtain ⟨l1, h1, h2⟩ := putOuts_get j h.2 e
            simp only [putOut] at e1
            by_cases hij : i = j
            · subst hij
              have hn := outAt_not (cs := cs) h.2 (List.mem_cons_self (a := i) (l := l))
              have e2 := h2 hn
              split at e1
              · rename_i c0 e0
                cases e1
                refine ⟨by rw [l1]; simp, fun c' hc => ?_, fun hc => ?_⟩
                · simp only [outAt, if_pos] at hc; cases hc
                  exact .inl ⟨c0, e0, by rw [e2, getS_set_self (getS_lt e0)]⟩
                · simp [outAt] at hc
              · rename_i c0 e0
                cases e1
                refine ⟨by rw [l1]; simp, fun c' hc => ?_, fun hc => ?_⟩
                · simp only [outAt, if_pos] at hc; cases hc
                  exact .inr ⟨c0, e0, by rw [e2, getS_set_self (getS_lt e0)]⟩
                · simp [outAt] at hc
              · cases e1
            · have hs : ρ1.length = ρ.length ∧ getS ρ1 j = getS ρ j := by
                split at e1
                · cases e1; exact ⟨by simp, getS_set_ne hij⟩
                · cases e1; exact ⟨by simp, getS_set_ne hij⟩
                · cases e1
              simp only [outAt, if_neg hij]
              rw [← hs.2]
              exact ⟨l1.trans hs.1, h1, h2⟩
/-- the arguments, as the callee wants them -/
theorem lent_args : ∀ {ms : List Bool} {os : List OV} {l : List Nat} {cs ds : List D} {vs : List V} {ρ' ρ2 : Env}, Rl g T ρ σ H F → (∀ p ∈ tmps os vs, p ∈ T) → lentOk ms os l = true → putOuts ms os cs ρ' = some ρ2 → (∀ i, i ∉ l → getS ρ' i = getS ρ i) → OVs g σ F os vs → getOs ρ os = some ds →
    ArgsOk g.K g.mg H F ms ds vs ∧ ∀ a ∈ borA ms vs, (∃ i, i ∉ l ∧ Ow ρ σ i a ∧ OV.slot i ∈ os) ∨ ∃ c, (a, c) ∈ tmps os vs
  | [], os, l, cs, ds, vs, ρ', ρ2, R, ht, h, e, hg, z, q => by
    cases os with
    | nil => simp only [getOs, Option.some.injEq] at q; subst q; simp only [OVs] at z; subst z; exact ⟨⟨rfl, rfl⟩, fun a ha => by simp [borA] at ha⟩
    | cons o os => simp [putOuts] at e
  | m :: ms, os, l, cs, ds, vs, ρ', ρ2, R, ht, h, e, hg, z, q => by
    cases os with
    | nil => cases m <;> simp [putOuts] at e
    | cons o os =>
      obtain ⟨v, vr, rfl, z1, z2⟩ := z
      simp only [getOs] at q
      cases q1 : getO ρ o with
      | none => rw [q1] at q; cases q
      | some d =>
        cases q2 : getOs ρ os with
        | none => rw [q1, q2] at q; cases q
        | some ds' =>
          rw [q1, q2] at q; cases q
          have ht2 : ∀ p ∈ tmps os vr, p ∈ T := fun p hp => ht p (List.mem_append_left _ hp)
          cases m with
          | false =>
            cases o with
            | val d' =>
              simp only [lentOk] at h
              simp only [putOuts] at e
              simp only [getO, Option.some.injEq] at q1; subst q1
              obtain ⟨a1, a2⟩ := lent_args R ht2 h e hg z2 q2
              refine ⟨⟨_, _, v, vr, rfl, rfl, z1, a1⟩, fun a ha => ?_⟩
              have ha : a ∈ borA ms vr := by simpa [borA, bor1] using ha
              rcases a2 a ha with ⟨i, b1, b2, b3⟩ | ⟨c, b⟩
              · exact .inl ⟨i, b1, b2, List.mem_cons_of_mem _ b3⟩
              · exact .inr ⟨c, List.mem_append_left _ b⟩
            | slot i => simp [lentOk] at h
            | fresh c => simp [lentOk] at h
          | true =>
            cases cs with
            | nil => cases o <;> simp [putOuts] at e
            | cons c cs =>
              simp only [putOuts] at e
              cases e1 : putOut o c ρ' with
              | none => rw [e1] at e; cases e
              | some ρ1 =>
                rw [e1] at e
                cases o with
                | val d' => simp [lentOk] at h
                | fresh c' =>
                  simp only [lentOk] at h
                  simp only [putOut, Option.some.injEq] at e1; subst e1
                  simp only [getO, Option.some.injEq] at q1; subst q1
                  obtain ⟨a1, a2⟩ := lent_args R ht2 h e hg z2 q2
                  obtain ⟨a, rfl⟩ := z1
                  have t := R.tm (a, c') (ht _ (List.mem_append_right _ (by simp [tmp1])))
                  refine ⟨⟨_, _, _, vr, rfl, rfl, ⟨a, rfl, t.1, t.2.2⟩, a1⟩, fun b hb => ?_⟩
                  simp only [borA, bor1, List.cons_append, List.nil_append, List.mem_cons] at hb
                  rcases hb with rfl | hb
                  · exact .inr ⟨c', List.mem_append_right _ (by simp [tmp1])⟩
                  · rcases a2 b hb with ⟨i, b1, b2, b3⟩ | ⟨c, b⟩
                    · exact .inl ⟨i, b1, b2, List.mem_cons_of_mem _ b3⟩
                    · exact .inr ⟨c, List.mem_append_left _ b⟩
                | slot i =>
                  simp only [lentOk, Bool.and_eq_true, Bool.not_eq_true', List.contains_eq_mem, decide_eq_false_iff_not] at h
                  have hi := hg i h.1
                  have z1 : σ[i]? = some (some v) := z1
                  simp only [putOut] at e1
                  have hg2 : ∀ j, j ∉ i :: l → getS ρ1 j = getS ρ j := fun j hj => by
                    simp only [List.mem_cons, not_or] at hj
                    rw [← hg j hj.2]
                    split at e1
                    · cases e1; exact getS_set_ne (fun z => hj.1 z.symm)
                    · cases e1; exact getS_set_ne (fun z => hj.1 z.symm)
                    · cases e1
                  obtain ⟨a1, a2⟩ := lent_args R ht2 h.2 e hg2 z2 q2
                  obtain ⟨a, hv, ow, fn, at'⟩ : ∃ a, v = .ref a ∧ Ow ρ σ i a ∧ F a = none ∧ At g.K g.mg H F d a := by
                    simp only [getO] at q1
                    split at e1
                    · rename_i c0 e0
                      rw [hi] at e0
                      rw [e0] at q1; cases q1
                      obtain ⟨w, hw, a, rfl, t⟩ := R.sl i _ e0
                      rw [z1] at hw; cases hw
                      exact ⟨a, rfl, ⟨_, e0, rfl, z1⟩, t.1, t.2.2⟩
                    · rename_i c0 e0
                      rw [hi] at e0
                      rw [e0] at q1; cases q1
                      obtain ⟨w, hw, a, rfl, b, t⟩ := R.sl i _ e0
                      rw [z1] at hw; cases hw
                      exact ⟨a, rfl, ⟨_, e0, rfl, z1⟩, (R.fz.bor _ (R.fz.par _ _ b)).2.2, t⟩
                    · cases e1
                  subst hv
                  refine ⟨⟨_, _, _, vr, rfl, rfl, ⟨a, rfl, fn, at'⟩, a1⟩, fun b hb => ?_⟩
                  simp only [borA, bor1, List.cons_append, List.nil_append, List.mem_cons] at hb
                  rcases hb with rfl | hb
                  · exact .inl ⟨i, h.1, ow, List.mem_cons_self⟩
                  · rcases a2 b hb with ⟨j, b1, b2, b3⟩ | ⟨c, b⟩
                    · exact .inl ⟨j, fun z => b1 (List.mem_cons_of_mem _ z), b2, List.mem_cons_of_mem _ b3⟩
                    · exact .inr ⟨c, List.mem_append_left _ b⟩
theorem lent_nodup : ∀ {ms : List Bool} {os : List OV} {l : List Nat} {cs ds : List D} {vs : List V} {ρ' ρ2 : Env}, Rl g T ρ σ H F → (∀ p ∈ tmps os vs, p ∈ T) → ((tmps os vs).map (·.1)).Nodup → lentOk ms os l = true → putOuts ms os cs ρ' = some ρ2 → (∀ i, i ∉ l → getS ρ' i = getS ρ i) → OVs g σ F os vs → getOs ρ os = some ds → (borA ms vs).Nodup
  | [], os, l, cs, ds, vs, ρ', ρ2, R, ht, hn, h, e, hg, z, q => by simp [borA]
  | m :: ms, os, l, cs, ds, vs, ρ', ρ2, R, ht, hn, h, e, hg, z, q => by
    cases os with
    | nil => cases m <;> simp [putOuts] at e
    | cons o os =>
      obtain ⟨v, vr, rfl, z1, z2⟩ := z
      simp only [getOs] at q
      cases q1 : getO ρ o with
      | none => rw [q1] at q; cases q
      | some d =>
        cases q2 : getOs ρ os with
        | none => rw [q1, q2] at q; cases q
        | some ds' =>
          rw [q1, q2] at q; cases q
          have ht2 : ∀ p ∈ tmps os vr, p ∈ T := fun p hp => ht p (List.mem_append_left _ hp)
          simp only [tmps, List.map_append] at hn
          have hn2 : ((tmps os vr).map (·.1)).Nodup := (List.nodup_append.mp hn).1
          cases m with
          | false =>
            cases o with
            | val d' =>
              simp only [lentOk] at h
              simp only [putOuts] at e
              simpa [borA, bor1] using lent_nodup R ht2 hn2 h e hg z2 q2
            | slot i => simp [lentOk] at h
            | fresh c => simp [lentOk] at h
          | true =>
            cases cs with
            | nil => cases o <;> simp [putOuts] at e
            | cons c cs =>
              simp only [putOuts] at e
              cases e1 : putOut o c ρ' with
              | none => rw [e1] at e; cases e
              | some ρ1 =>
                rw [e1] at e
                cases o with
                | val d' => simp [lentOk] at h
                | fresh c' =>
                  simp only [lentOk] at h
                  simp only [putOut, Option.some.injEq] at e1; subst e1
                  obtain ⟨a, rfl⟩ := z1
                  have a2 := (lent_args R ht2 h e hg z2 q2).2
                  simp only [borA, bor1, List.cons_append, List.nil_append]
                  refine List.nodup_cons.mpr ⟨fun hb => ?_, lent_nodup R ht2 hn2 h e hg z2 q2⟩
                  rcases a2 a hb with ⟨i, b1, b2, b3⟩ | ⟨c2, b⟩
                  · exact R.sep i a b2 (List.mem_map_of_mem (f := Prod.fst) (ht (a, c') (List.mem_append_right _ (by simp [tmp1]))))
                  · have := (List.nodup_append.mp hn).2.2 a (List.mem_map_of_mem (f := Prod.fst) b) a (by simp [tmp1])
                    exact this rfl
                | slot i =>
                  simp only [lentOk, Bool.and_eq_true, Bool.not_eq_true', List.contains_eq_mem, decide_eq_false_iff_not] at h
                  have z1 : σ[i]? = some (some v) := z1
                  simp only [putOut] at e1
                  have hi := hg i h.1
                  have hg2 : ∀ j, j ∉ i :: l → getS ρ1 j = getS ρ j := fun j hj => by
                    simp only [List.mem_cons, not_or] at hj
                    rw [← hg j hj.2]
                    split at e1
                    · cases e1; exact getS_set_ne (fun z => hj.1 z.symm)
                    · cases e1; exact getS_set_ne (fun z => hj.1 z.symm)
                    · cases e1
                  have a2 := (lent_args R ht2 h.2 e hg2 z2 q2).2
                  obtain ⟨a, hv, ow⟩ : ∃ a, v = .ref a ∧ Ow ρ σ i a := by
                    split at e1
                    · rename_i c0 e0
                      rw [hi] at e0
                      obtain ⟨w, hw, a, rfl, t⟩ := R.sl i _ e0
                      rw [z1] at hw; cases hw
                      exact ⟨a, rfl, _, e0, rfl, z1⟩
                    · rename_i c0 e0
                      rw [hi] at e0
                      obtain ⟨w, hw, a, rfl, b, t⟩ := R.sl i _ e0
                      rw [z1] at hw; cases hw
                      exact ⟨a, rfl, _, e0, rfl, z1⟩
                    · cases e1
                  subst hv
                  simp only [borA, bor1, List.cons_append, List.nil_append]
                  refine List.nodup_cons.mpr ⟨fun hb => ?_, lent_nodup R ht2 hn2 h.2 e hg2 z2 q2⟩
                  rcases a2 a hb with ⟨j, b1, b2, b3⟩ | ⟨c2, b⟩
                  · have := R.inj i j a ow b2
                    subst this
                    exact b1 List.mem_cons_self
                  · exact R.sep i a ow (List.mem_map_of_mem (f := Prod.fst) (ht2 _ b))
/-- what comes back to a slot -/
theorem out_slot : ∀ {ms : List Bool} {os : List OV} {cs : List D} {vs : List V} {j : Nat} {c : D}, outAt ms os cs j = some c → OVs g σ F os vs → OutsOk g.K g.mg H' F' ms cs vs → ∃ a, σ[j]? = some (some (.ref a)) ∧ a ∈ borA ms vs ∧ At g.K g.mg H' F' c a
  | [], os, cs, vs, j, c, h, z, q => by cases os <;> simp [outAt] at h
  | false :: ms, os, cs, vs, j, c, h, z, q => by
    cases os with
    | nil => simp [outAt] at h
    | cons o os =>
      obtain ⟨v, vr, rfl, z1, z2⟩ := z
      obtain ⟨v', vr', e, q⟩ := q
      cases e
      simp only [outAt] at h
      obtain ⟨a, e1, e2, e3⟩ := out_slot h z2 q
      exact ⟨a, e1, by simp [borA, e2], e3⟩
  | true :: ms, os, cs, vs, j, c, h, z, q => by
    cases os with
    | nil => simp [outAt] at h
    | cons o os =>
      obtain ⟨v, vr, rfl, z1, z2⟩ := z
      obtain ⟨c', cr, v', vr', rfl, e, ⟨a, e2, at'⟩, q⟩ := q
      cases e
      have go : outAt ms os cr j = some c → ∃ a, σ[j]? = some (some (.ref a)) ∧ a ∈ borA (true :: ms) (v :: vr) ∧ At g.K g.mg H' F' c a := fun h => by
        obtain ⟨a, e1, e2, e3⟩ := out_slot h z2 q
        exact ⟨a, e1, by simp [borA, e2], e3⟩
      cases o with
      | val d => simp only [outAt] at h; exact go h
      | fresh d => simp only [outAt] at h; exact go h
      | slot i =>
        simp only [outAt] at h
        by_cases hij : i = j
        · subst hij
          rw [if_pos rfl] at h; cases h
          subst e2
          have z1 : σ[i]? = some (some (.ref a)) := z1
          exact ⟨a, z1, by simp [borA, bor1], at'⟩
        · rw [if_neg hij] at h; exact go h
/-- behind the call: the state -/
theorem call_back {ms : List Bool} {os : List OV} {cs ds : List D} {vs : List V} (R : Rl g (tmps os vs ++ T) ρ σ H F) (h : lentOk ms os [] = true) (e : putOuts ms os cs ρ = some ρ2) (z : OVs g σ F os vs) (q : getOs ρ os = some ds) (P : Post g.K g.mg H F H' F' ms vs cs) : Rl g T ρ2 σ H' F' := by
  have ht : ∀ p ∈ tmps os vs, p ∈ tmps os vs ++ T := fun p hp => List.mem_append_left _ hp
  have la := lent_args R ht h e (fun _ _ => rfl) z q
  have ba := la.2
  -- an owned slot's address is lent just where the slot was handed in
  have lentS : ∀ j a, Ow ρ σ j a → a ∈ borA ms vs → OV.slot j ∈ os := fun j a ow hb => by
    rcases ba a hb with ⟨i, _, o2, o3⟩ | ⟨c, o2⟩
    · rw [R.inj j i a ow o2]; exact o3
    · exact absurd (List.mem_map_of_mem (f := Prod.fst) (ht _ o2)) (R.sep j a ow)
  have hBH : ∀ a ∈ borA ms vs, ∃ o, H a = some o := fun a hb => by
    rcases ba a hb with ⟨i, _, o2, o3⟩ | ⟨c, o2⟩
    · exact (R.ow o2).1
    · exact (R.tm _ (ht _ o2)).2.2.there
  have hF' : ∀ a o, H a = some o → F a = none → F' a = none := fun a o e n => by
    cases q : F' a with
    | none => rfl
    | some u => rw [P.new a u q n] at e; cases e
  have outsAt : ∀ {ms : List Bool} {cs : List D} {vs : List V} {a : Addr}, OutsOk g.K g.mg H' F' ms cs vs → a ∈ borA ms vs → ∃ o, H' a = some o := by
    intro ms
    induction ms with
    | nil => intro cs vs a _ hb; simp [borA] at hb
    | cons m ms ih =>
      intro cs vs a hO hb
      cases m with
      | false =>
        obtain ⟨v, vr, rfl, hO⟩ := hO
        exact ih hO (by simpa [borA, bor1] using hb)
      | true =>
        obtain ⟨c, cr, v, vr, rfl, rfl, ⟨b, rfl, at'⟩, hO⟩ := hO
        simp only [borA, bor1, List.cons_append, List.nil_append, List.mem_cons] at hb
        rcases hb with rfl | hb
        · exact at'.there
        · exact ih hO hb
  -- every slot that was not handed in is as it was
  have slotNot : ∀ {ms : List Bool} {os : List OV} {l : List Nat} {cs : List D} {ρ ρ2 : Env} {j : Nat}, lentOk ms os l = true → putOuts ms os cs ρ = some ρ2 → outAt ms os cs j = none → OV.slot j ∉ os := by
    intro ms
    induction ms with
    | nil => intro os l cs ρ ρ2 j h e ho; cases os with
      | nil => simp
      | cons o os => simp [lentOk] at h
    | cons m ms ih =>
      intro os l cs ρ ρ2 j h e ho
      cases os with
      | nil => simp
      | cons o os =>
        cases m with
        | false =>
          cases o with
          | val d => simp only [lentOk] at h; simp only [putOuts] at e; simp only [outAt] at ho; simpa using ih h e ho
          | slot i => simp [lentOk] at h
          | fresh c => simp [lentOk] at h
        | true =>
          cases cs with
          | nil => cases o <;> simp [putOuts] at e
          | cons c cs =>
            simp only [putOuts] at e
            cases e1 : putOut o c ρ with
            | none => rw [e1] at e; cases e
            | some ρ1 =>
              rw [e1] at e
              cases o with
              | val d => simp [lentOk] at h
              | fresh d => simp only [lentOk] at h; simp only [outAt] at ho; simpa using ih h e ho
              | slot i =>
                simp only [lentOk, Bool.and_eq_true] at h
                simp only [outAt] at ho
                by_cases hij : i = j
                · rw [if_pos hij] at ho; cases ho
                · rw [if_neg hij] at ho
                  simp only [List.mem_cons, OV.slot.injEq, not_or]
                  exact ⟨fun z => hij z.symm, ih h.2 e ho⟩
  have owBack : ∀ j a, Ow ρ2 σ j a → Ow ρ σ j a := fun j a ⟨sv, e1, m, hv⟩ => by
    obtain ⟨_, p1, p2⟩ := putOuts_get j h e
    cases ho : outAt ms os cs j with
    | none => exact ⟨sv, by rw [← p2 ho]; exact e1, m, hv⟩
    | some c =>
      rcases p1 c ho with ⟨c0, e2, _⟩ | ⟨c0, e2, _⟩
      · exact ⟨_, e2, rfl, hv⟩
      · exact ⟨_, e2, rfl, hv⟩
  refine ⟨⟨P.s, R.fz.f0.trans P.f, fun a o e1 e0 => ?_, fun a o e1 hb => ?_, R.fz.par, fun a hb => ?_⟩, ?_, fun j sv e1 => ?_, fun p hp => ?_, fun i j a o1 o2 => R.inj i j a (owBack i a o1) (owBack j a o2), fun i a o1 hm => ?_, ?_⟩
  · cases q1 : F a with
    | some u => exact R.fz.new a u q1 e0
    | none => exact (R.fz.free (P.new a o e1 q1)).1
  · refine P.keep a o (R.fz.keep a o e1 hb) fun hbb => ?_
    rcases ba a hbb with ⟨i, _, ⟨sv, s1, s2, s3⟩, _⟩ | ⟨c, o2⟩
    · obtain ⟨v, hv, z1⟩ := R.sl i sv s1
      rw [s3] at hv; cases hv
      cases sv with
      | val d => cases s2
      | own c => obtain ⟨b, eb, t⟩ := z1; cases eb; rw [t.2.1] at e1; cases e1
      | bor c => obtain ⟨b, eb, hp, t⟩ := z1; cases eb; exact hb (R.fz.par _ _ hp)
    · rw [(R.tm _ (ht _ o2)).2.1] at e1; cases e1
  · obtain ⟨⟨o, e1⟩, e2, e3⟩ := R.fz.bor a hb
    refine ⟨?_, e2, hF' a o e1 e3⟩
    by_cases hbb : a ∈ borA ms vs
    · exact outsAt P.outs hbb
    · exact ⟨o, P.keep a o e1 hbb⟩
  · rw [(putOuts_get 0 h e).1, R.len]
  · obtain ⟨_, p1, p2⟩ := putOuts_get j h e
    cases ho : outAt ms os cs j with
    | none =>
      rw [p2 ho] at e1
      obtain ⟨v, hv, z1⟩ := R.sl j sv e1
      refine ⟨v, hv, z1.move P.f fun a ea m => ?_⟩
      subst ea
      have ow : Ow ρ σ j a := ⟨sv, e1, m, hv⟩
      obtain ⟨⟨o, eo⟩, n⟩ := R.ow ow
      refine ⟨?_, hF' a o eo n⟩
      rw [eo]
      exact P.keep a o eo fun hbb => slotNot h e ho (lentS j a ow hbb)
    | some c =>
      obtain ⟨a, hv, hb, at'⟩ := out_slot ho z P.outs
      rcases p1 c ho with ⟨c0, e2, e3⟩ | ⟨c0, e2, e3⟩
      · rw [e3] at e1; cases e1
        obtain ⟨v, hv', b, eb, t⟩ := R.sl j _ e2
        rw [hv] at hv'; cases hv'; cases eb
        obtain ⟨o, eo⟩ := t.2.2.there
        exact ⟨_, hv, a, rfl, hF' a o eo t.1, t.2.1, at'⟩
      · rw [e3] at e1; cases e1
        obtain ⟨v, hv', b, eb, hp, t⟩ := R.sl j _ e2
        rw [hv] at hv'; cases hv'; cases eb
        exact ⟨_, hv, a, rfl, hp, at'⟩
  · have hp' : p ∈ tmps os vs ++ T := List.mem_append_right _ hp
    have t := R.tm p hp'
    obtain ⟨o, eo⟩ := t.2.2.there
    refine t.move ?_ P.f (hF' _ o eo t.1)
    rw [eo]
    refine P.keep _ o eo fun hbb => ?_
    rcases ba _ hbb with ⟨i, _, o2, _⟩ | ⟨c, o2⟩
    · exact R.sep i _ o2 (List.mem_map_of_mem (f := Prod.fst) hp')
    · have nd := R.nd
      rw [List.map_append] at nd
      exact (List.nodup_append.mp nd).2.2 p.1 (List.mem_map.mpr ⟨(p.1, c), o2, rfl⟩) p.1 (List.mem_map_of_mem (f := Prod.fst) hp) rfl
  · refine R.sep i a (owBack i a o1) ?_
    rw [List.map_append]; exact List.mem_append_right _ hm
  · have nd := R.nd
    rw [List.map_append] at nd
    exact (List.nodup_append.mp nd).2.1
theorem XRk.xr {e : D} {cls : Value} {d : Option Addr} (h : XRk g.K g.mg H F e cls d) : XR g H F e cls d := by
  cases e <;> first | exact h | exact h.elim
/-- the call keeps to the promise -/
theorem doCall_sp {f : FunSem} {os : List OV} {vs : List V} {F0 : Hp} {Q : VK} (hr : ResL g T os vs ρ σ H F) (s0 : Sub F0 F)
    (h : match doCall f os ρ with | .ok o ρ' => ∀ v H' F', Sub F0 F' → Res g T o v ρ' σ H' F' → Q v H' | .ex e ρ' => Xw g W σ F0 e ρ' | .no => False) : spF g.K g.mg f vs H Q (fun cls d H' => W cls d σ H') := by
  obtain ⟨R, z⟩ := hr
  unfold doCall at h
  cases hl : lentOk f.modes os [] with
  | false => simp [hl] at h
  | true =>
    simp only [hl, if_true] at h
    cases hq : getOs ρ os with
    | none => simp only [hq, lift] at h
    | some ds =>
      simp only [hq, lift] at h
      have ht : ∀ p ∈ tmps os vs, p ∈ tmps os vs ++ T := fun p hp => List.mem_append_left _ hp
      have nd : ((tmps os vs).map (·.1)).Nodup := by
        have nd := R.nd
        rw [List.map_append] at nd
        exact (List.nodup_append.mp nd).1
      cases hf : f.run ds with
      | no => simp only [hf] at h
      | ret fr d outs =>
        simp only [hf] at h
        cases hp : putOuts f.modes os outs ρ with
        | none => simp only [hp] at h
        | some ρ2 =>
          simp only [hp] at h
          refine ⟨F, ds, R.fz.sub, (lent_args R ht hl hp (fun _ _ => rfl) z hq).1, lent_nodup R ht nd hl hp (fun _ _ => rfl) z hq, ?_⟩
          rw [hf]
          intro v H' F' P r
          have R2 := call_back R hl hp z hq P
          refine h v H' F' (s0.trans P.f) ?_
          cases fr with
          | false => exact ⟨R2, r⟩
          | true =>
            obtain ⟨a, rfl, hn, hn', at'⟩ := r
            refine ⟨a, rfl, R2.temp ⟨hn', (R.fz.free hn).1, at'⟩ (fun i ow => ?_) fun hm => ?_⟩
            · obtain ⟨sv, e1, m, hv⟩ := ow
              obtain ⟨_, p1, p2⟩ := putOuts_get i hl hp
              have ow' : Ow ρ σ i a := by
                cases ho : outAt f.modes os outs i with
                | none => exact ⟨sv, by rw [← p2 ho]; exact e1, m, hv⟩
                | some c =>
                  rcases p1 c ho with ⟨c0, e2, _⟩ | ⟨c0, e2, _⟩
                  · exact ⟨_, e2, rfl, hv⟩
                  · exact ⟨_, e2, rfl, hv⟩
              obtain ⟨⟨o, eo⟩, _⟩ := R.ow ow'
              rw [hn] at eo; cases eo
            · obtain ⟨p, hp', ep⟩ := List.mem_map.mp hm
              obtain ⟨o, eo⟩ := (R.tm p (List.mem_append_right _ hp')).2.2.there
              rw [ep, hn] at eo; cases eo
      | ex e outs =>
        simp only [hf] at h
        cases hp : putOuts f.modes os outs ρ with
        | none => simp only [hp] at h
        | some ρ2 =>
          simp only [hp] at h
          refine ⟨F, ds, R.fz.sub, (lent_args R ht hl hp (fun _ _ => rfl) z hq).1, lent_nodup R ht nd hl hp (fun _ _ => rfl) z hq, ?_⟩
          rw [hf]
          intro cls dd H' F' P x
          have R2 := call_back R hl hp z hq P
          exact h cls dd H' F' (s0.trans P.f) (Rl.drops (T := []) (T' := T) (by rw [List.append_nil]; exact R2)) x.xr
end
end RF
end
section
/-! R7: a def keeps the promise of its mirror; calls by name. -/
namespace RF
open PySem L2

/-! ### the callee's side -/
section
variable {K : PySem.W.Frag} {mg : Mg} {H F : Hp}
theorem args_at : ∀ {ms : List Bool} {ds : List D} {vs : List V} {i : Nat} {m : Bool}, ArgsOk K mg H F ms ds vs → ms[i]? = some m → ∃ d v, ds[i]? = some d ∧ vs[i]? = some v ∧ ArgOk K mg H F m d v
  | [], _, _, _, _, h, e => by simp at e
  | m :: ms, _, _, 0, _, h, e => by
    obtain ⟨d, dr, v, vr, rfl, rfl, a, h⟩ := h
    simp at e; subst e
    exact ⟨d, v, rfl, rfl, a⟩
  | m :: ms, _, _, i + 1, _, h, e => by
    obtain ⟨d, dr, v, vr, rfl, rfl, a, h⟩ := h
    obtain ⟨d', v', h1, h2, h3⟩ := args_at h (i := i) (by simpa using e)
    exact ⟨d', v', by simpa using h1, by simpa using h2, h3⟩
theorem startE_at : ∀ {ms : List Bool} {ds : List D} {vs : List V} {i : Nat}, ArgsOk K mg H F ms ds vs → (startE ms ds)[i]? = (match ms[i]?, ds[i]? with | some true, some d => some (some (.bor d)) | some false, some d => some (some (.val d)) | _, _ => none)
  | [], _, _, i, h => by obtain ⟨rfl, rfl⟩ := h; simp [startE]
  | m :: ms, _, _, 0, h => by
    obtain ⟨d, dr, v, vr, rfl, rfl, a, h⟩ := h
    cases m <;> simp [startE]
  | m :: ms, _, _, i + 1, h => by
    obtain ⟨d, dr, v, vr, rfl, rfl, a, h⟩ := h
    simpa [startE] using startE_at h (i := i)
theorem startE_len : ∀ {ms : List Bool} {ds : List D} {vs : List V}, ArgsOk K mg H F ms ds vs → (startE ms ds).length = ms.length
  | [], _, _, h => by obtain ⟨rfl, rfl⟩ := h; rfl
  | m :: ms, _, _, h => by
    obtain ⟨d, dr, v, vr, rfl, rfl, a, h⟩ := h
    simp [startE, startE_len h]
theorem borA_at : ∀ {ms : List Bool} {vs : List V} {i : Nat} {a : Addr}, ms[i]? = some true → vs[i]? = some (.ref a) → a ∈ borA ms vs
  | [], _, _, _, h, _ => by simp at h
  | m :: ms, [], _, _, _, h => by simp at h
  | m :: ms, v :: vs, 0, a, h, e => by simp at h e; subst h e; simp [borA, bor1]
  | m :: ms, v :: vs, i + 1, a, h, e => by
    have := borA_at (ms := ms) (vs := vs) (i := i) (a := a) (by simpa using h) (by simpa using e)
    simp [borA, this]
theorem borA_of : ∀ {ms : List Bool} {vs : List V} {a : Addr}, a ∈ borA ms vs → ∃ i : Nat, ms[i]? = some true ∧ vs[i]? = some (V.ref a)
  | [], _, _, h => by simp [borA] at h
  | m :: ms, [], _, h => by simp [borA] at h
  | m :: ms, v :: vs, a, h => by
    simp only [borA, List.mem_append] at h
    rcases h with h | h
    · refine ⟨0, ?_⟩
      cases m <;> cases v <;> simp [bor1] at h
      subst h; simp
    · obtain ⟨i, h1, h2⟩ := borA_of h
      exact ⟨i + 1, by simpa using h1, by simpa using h2⟩
theorem borA_inj : ∀ {ms : List Bool} {vs : List V} {i j : Nat} {a : Addr}, (borA ms vs).Nodup → ms[i]? = some true → vs[i]? = some (.ref a) → ms[j]? = some true → vs[j]? = some (.ref a) → i = j
  | [], _, _, _, _, _, h, _, _, _ => by simp at h
  | m :: ms, [], _, _, _, _, _, h, _, _ => by simp at h
  | m :: ms, v :: vs, 0, 0, a, hn, h1, h2, h3, h4 => rfl
  | m :: ms, v :: vs, 0, j + 1, a, hn, h1, h2, h3, h4 => by
    simp at h1 h2; subst h1 h2
    simp only [borA, bor1, List.cons_append, List.nil_append] at hn
    exact absurd (borA_at (i := j) (by simpa using h3) (by simpa using h4)) (List.nodup_cons.mp hn).1
  | m :: ms, v :: vs, i + 1, 0, a, hn, h1, h2, h3, h4 => by
    simp at h3 h4; subst h3 h4
    simp only [borA, bor1, List.cons_append, List.nil_append] at hn
    exact absurd (borA_at (i := i) (by simpa using h1) (by simpa using h2)) (List.nodup_cons.mp hn).1
  | m :: ms, v :: vs, i + 1, j + 1, a, hn, h1, h2, h3, h4 => by
    simp only [borA] at hn
    rw [borA_inj (ms := ms) (vs := vs) (i := i) (j := j) (List.nodup_append.mp hn).2.1 (by simpa using h1) (by simpa using h2) (by simpa using h3) (by simpa using h4)]
/-- the address that is lent at slot i -/
def paOf (ms : List Bool) (vs : List V) (i : Nat) : Option Addr := match ms[i]?, vs[i]? with
  | some true, some (.ref a) => some a
  | _, _ => none
theorem paOf_some {ms : List Bool} {vs : List V} {i : Nat} {a : Addr} (h : paOf ms vs i = some a) : ms[i]? = some true ∧ vs[i]? = some (.ref a) := by
  unfold paOf at h
  split at h
  · rename_i e1 e2; cases h; exact ⟨e1, e2⟩
  · cases h
theorem outs_ok {H' F' : Hp} : ∀ {ms : List Bool} {ρ : Env} {outs : List D} {vs : List V}, outsOf ms ρ = some outs → vs.length = ms.length → (∀ (j : Nat) (c : D), ρ[j]? = some (some (SV.bor c)) → ms[j]? = some true → ∃ a, vs[j]? = some (V.ref a) ∧ At K mg H' F' c a) → OutsOk K mg H' F' ms outs vs
  | [], ρ, outs, vs, h, hl, k => by
    simp only [outsOf, Option.some.injEq] at h; subst h
    exact ⟨rfl, List.length_eq_zero_iff.mp hl⟩
  | false :: ms, ρ, outs, vs, h, hl, k => by
    cases ρ with
    | nil => simp [outsOf] at h
    | cons s ρ =>
      simp only [outsOf] at h
      cases vs with
      | nil => simp at hl
      | cons v vr => exact ⟨v, vr, rfl, outs_ok h (by simpa using hl) fun j c e m => by simpa using k (j + 1) c (by simpa using e) (by simpa using m)⟩
  | true :: ms, ρ, outs, vs, h, hl, k => by
    cases ρ with
    | nil => simp [outsOf] at h
    | cons s ρ =>
      cases s with
      | none => simp [outsOf] at h
      | some sv =>
        cases sv with
        | val d => simp [outsOf] at h
        | own d => simp [outsOf] at h
        | bor c =>
          simp only [outsOf] at h
          cases e : outsOf ms ρ with
          | none => rw [e] at h; cases h
          | some os =>
            rw [e] at h
            simp only [Option.map_some, Option.some.injEq] at h; subst h
            cases vs with
            | nil => simp at hl
            | cons v vr =>
              obtain ⟨a, e1, e2⟩ := k 0 c (by simp) (by simp)
              simp at e1; subst e1
              exact ⟨c, os, _, vr, rfl, rfl, ⟨a, rfl, e2⟩, outs_ok e (by simpa using hl) fun j c e m => by simpa using k (j + 1) c (by simpa using e) (by simpa using m)⟩
end
section
variable {P : Program} {w : World} {K : PySem.W.Frag} {mg : Mg} {base : Heap}
theorem fun_start {N : List Str} {modes : List Bool} {H F : Hp} {ds : List D} {vs : List V} (s : Sub F H) (h : ArgsOk K mg H F modes ds vs) (hn : (borA modes vs).Nodup) (hl : modes.length ≤ N.length) :
    Rl ⟨K, mg, H, F, borA modes vs, paOf modes vs⟩ [] (startE modes ds ++ List.replicate (N.length - ds.length) none) (L2.start N vs) H F := by
  have hs : ∀ i sv, getS (startE modes ds ++ List.replicate (N.length - ds.length) none) i = some sv → ∃ m d v, modes[i]? = some m ∧ ds[i]? = some d ∧ vs[i]? = some v ∧ ArgOk K mg H F m d v ∧ sv = (match m with | true => .bor d | false => .val d) ∧ (L2.start N vs)[i]? = some (some v) := fun i sv e => by
    unfold getS at e
    by_cases hi : i < (startE modes ds).length
    · rw [List.getElem?_append_left hi, startE_at h] at e
      have hm : i < modes.length := by rw [← startE_len h]; exact hi
      obtain ⟨d, v, e1, e2, a⟩ := args_at h (i := i) (m := modes[i]) (by simp [hm])
      have em : modes[i]? = some modes[i] := by simp [hm]
      refine ⟨modes[i], d, v, em, e1, e2, a, ?_, ?_⟩
      · rw [em, e1] at e
        cases hb : modes[i] <;> rw [hb] at e <;> cases e <;> rfl
      · have hv : i < vs.length := (List.getElem?_eq_some_iff.mp e2).1
        unfold L2.start
        rw [List.getElem?_append_left (by simpa using hv), List.getElem?_map, e2]; rfl
    · rw [List.getElem?_append_right (Nat.le_of_not_lt hi)] at e
      rw [List.getElem?_replicate] at e
      split at e
      · rename_i e'; split at e' <;> cases e'
      · cases e
  have ow : ∀ i a, Ow (startE modes ds ++ List.replicate (N.length - ds.length) none) (L2.start N vs) i a → modes[i]? = some true ∧ vs[i]? = some (.ref a) := fun i a ⟨sv, e1, m, q⟩ => by
    obtain ⟨mm, d, v, h1, h2, h3, h4, h5, h6⟩ := hs i sv e1
    rw [h6] at q; cases q
    cases mm with
    | true => exact ⟨h1, h3⟩
    | false => subst h5; cases m
  refine ⟨⟨s, Sub.refl F, fun a o e n => (by rw [show F a = none from n] at e; cases e), fun a o e _ => e, fun i a e => borA_at (paOf_some e).1 (paOf_some e).2, fun a hb => ?_⟩, ?_, fun i sv e => ?_, fun p hp => (nomatch hp), fun i j a o1 o2 => ?_, fun i a _ hb => by simp at hb, by simp⟩
  · obtain ⟨i, e1, e2⟩ := borA_of hb
    obtain ⟨d, v, q1, q2, q3⟩ := args_at h e1
    rw [e2] at q2; cases q2
    obtain ⟨b, eb, fn, at'⟩ := q3
    cases eb
    exact ⟨at'.there, at'.there, fn⟩
  · have h1 := startE_len h
    have h2 := h.len
    unfold L2.start
    simp only [List.length_append, List.length_replicate, List.length_map, h1]
    omega
  · obtain ⟨mm, d, v, h1, h2, h3, h4, h5, h6⟩ := hs i sv e
    refine ⟨v, h6, ?_⟩
    subst h5
    cases mm with
    | false => exact h4
    | true =>
      obtain ⟨a, rfl, fn, at'⟩ := h4
      exact ⟨a, rfl, by simp [paOf, h1, h3], at'⟩
  · obtain ⟨h1, h2⟩ := ow i a o1
    obtain ⟨h3, h4⟩ := ow j a o2
    exact borA_inj hn h1 h2 h3 h4
theorem fun_post {g : Bg} {modes : List Bool} {vs : List V} {ρ' : Env} {σ' : St} {H' F' : Hp} {outs : List D} (hB : g.B = borA modes vs) (hp : g.pa = paOf modes vs) (hl : vs.length = modes.length) (R : Rl g [] ρ' σ' H' F') (ho : outsOf modes ρ' = some outs) : Post g.K g.mg g.H0 g.F0 H' F' modes vs outs := by
  refine ⟨R.fz.f0, R.fz.sub, R.fz.new, fun a o e hb => R.fz.keep a o e (by rw [hB]; exact hb), outs_ok ho hl fun j c e m => ?_⟩
  have e' : getS ρ' j = some (.bor c) := by unfold getS; rw [e]
  obtain ⟨v, q, a, rfl, hpa, at'⟩ := R.sl j _ e'
  rw [hp] at hpa
  exact ⟨a, (paOf_some hpa).2, at'⟩
theorem XR.k {g : Bg} {H F : Hp} {e : D} {cls : Value} {d : Option Addr} (h : XR g H F e cls d) : XRk g.K g.mg H F e cls d := by
  cases e <;> first | exact h | exact h.elim
/-- THE RULE: a def keeps its mirror's promise -/
theorem fun_ok {x qual : Str} {params : Arguments} {body : List Stmt} {scope : Scope} {dvs : List V} {kws : List (Str × V)} {f : Addr} {fd : FuncData} (Fd : FunD K x qual params body scope dvs kws f fd) {N ps : List Str} (S : FnScope N ps scope) {modes : List Bool} (hm : modes.length = ps.length) (hps : ps.length ≤ N.length) {m : MS} {k : Nat}
    (hb : ∀ (cdv : Value) (A : Around) (outer : List PySem.Env) (s : Shared) (H : Hp) (E : XK) (g : Bg), Room k (A.deeper (PyProof.Rows.envOfC qual scope s.heap.objs.size f cdv)) → g.K = K → g.mg = mg →
      SSs (cxOf (L2.CX P w) P w K mg base N qual scope f cdv A outer s H E) g (fun cls d _ H' => E cls d H') body m) :
    FnOk P w K mg base (L2.CX P w) (k + 1) f fd ps (spF K mg (mkFun N.length modes m)) := by
  refine Fd.ok S (fun vs H Q E h => by rw [h.len]; exact hm) fun cdv A outer s H vs Q E hr h => ?_
  obtain ⟨F, ds, sF, ha, hn, h⟩ := h
  have hv := ha.len
  have ha' : ArgsOk K mg H F modes ds vs := ha
  have hn' : (borA modes vs).Nodup := hn
  refine ⟨_, hb cdv A outer s H E ⟨K, mg, H, F, borA modes vs, paOf modes vs⟩ hr rfl rfl, [], _, F, fun_start (N := N) sF ha' hn' (by omega), ?_⟩
  have hv1 : vs.length = modes.length := hv.1
  have hrun : (mkFun N.length modes m).run ds = finish modes (m (startE modes ds ++ List.replicate (N.length - ds.length) none)) := by
    show (if ds.length = modes.length then _ else _) = _
    rw [if_pos (show ds.length = modes.length from hv.2)]
  rw [hrun] at h
  cases e1 : m (startE modes ds ++ List.replicate (N.length - ds.length) none) with
  | no => simp only [e1, finish] at h; exact h
  | ex e ρ' =>
    simp only [e1, finish] at h
    cases e3 : outsOf modes ρ' with
    | none => simp only [e3] at h; exact h.elim
    | some outs =>
      simp only [e3] at h
      intro cls d σ' H' F' s' R' x
      exact h cls d H' F' (fun_post (modes := modes) rfl rfl hv1 R' e3) x.k
  | ok fl ρ' =>
    simp only [e1, finish] at h
    cases e2 : retOf fl ρ' with
    | none => simp only [e2] at h; exact h.elim
    | some p =>
      obtain ⟨fr, d⟩ := p
      simp only [e2] at h
      cases e3 : outsOf modes ρ' with
      | none => simp only [e3] at h; exact h.elim
      | some outs =>
        simp only [e3] at h
        cases fl with
        | bk => cases e2
        | ct => cases e2
        | nx =>
          cases e2
          intro σ' H' F' s' R'
          exact h .non H' F' (fun_post (modes := modes) rfl rfl hv1 R' e3) (rep_non (K := K) (mg := mg) F')
        | rt o =>
          intro v σ' H' F' s' r
          have P := fun_post (modes := modes) rfl rfl hv1 r.rl e3
          cases o with
          | val d' => cases e2; exact h v H' F' P r.2
          | fresh c =>
            cases e2
            obtain ⟨a, rfl, R⟩ := r
            have t := R.tm _ List.mem_cons_self
            exact h _ H' F' P ⟨a, rfl, t.2.1, t.1, t.2.2⟩
          | slot i =>
            simp only [retOf] at e2
            obtain ⟨R, hi⟩ := r
            split at e2
            · rename_i d' e4
              cases e2
              obtain ⟨v', q, z⟩ := R.sl i _ e4
              rw [hi] at q; cases q
              exact h v H' F' P z
            · rename_i d' e4
              cases e2
              obtain ⟨v', q, a, rfl, t⟩ := R.sl i _ e4
              rw [hi] at q; cases q
              exact h _ H' F' P ⟨a, rfl, t.2.1, t.1, t.2.2⟩
            · cases e2
end

/-! ### how arguments come to parameters -/
def pickV (dv : Nat → V) (vs : List V) : Nat → List Pm → List V
  | _, [] => []
  | j, .arg i :: ps => vs[i]?.getD .non :: pickV dv vs (j + 1) ps
  | j, .dft _ :: ps => dv j :: pickV dv vs (j + 1) ps
def pickU (du : Nat → Value) (us : List Value) : Nat → List Pm → List Value
  | _, [] => []
  | j, .arg i :: ps => us[i]?.getD .none :: pickU du us (j + 1) ps
  | j, .dft _ :: ps => du j :: pickU du us (j + 1) ps
structure BindP (K : PySem.W.Frag) (mg : Mg) (fd : FuncData) (ps : List Str) (n : Nat) (ks : List Str) (pms : List Pm) : Prop where
  ex : ∃ (du : Nat → Value) (dv : Nat → V), (∀ j d, pms[j]? = some (.dft d) → RelV (dv j) (du j) ∧ ∀ F, Rep K mg F d (dv j)) ∧
    ∀ (s : Shared) (us ws : List Value), K.In s.heap → us.length = n → ws.length = ks.length → BindsTo s fd ⟨us, ks.zip ws⟩ (ps.zip (pickU du (us ++ ws) 0 pms))
  ix : ∀ i, Pm.arg i ∈ pms → i < n + ks.length
section
variable {K : PySem.W.Frag} {mg : Mg}
theorem pick_vals {du : Nat → Value} {dv : Nat → V} {vs : List V} {us : List Value} (r : Vals vs us) : ∀ {ps : List Pm} {j : Nat}, (∀ i, Pm.arg i ∈ ps → i < vs.length) → (∀ i d, ps[i]? = some (.dft d) → RelV (dv (j + i)) (du (j + i))) → Vals (pickV dv vs j ps) (pickU du us j ps)
  | [], _, _, _ => .nil
  | .arg i :: ps, j, h, hd => by
    refine .cons ?_ (pick_vals r (fun k hk => h k (List.mem_cons_of_mem _ hk)) fun k d e => by
      have := hd (k + 1) d (by simpa using e)
      rw [show j + (k + 1) = j + 1 + k by omega] at this; exact this)
    have hi := h i List.mem_cons_self
    have e : vs[i]? = some vs[i] := by simp [hi]
    obtain ⟨u, e2, ru⟩ := r.get e
    rw [e, e2]; exact ru
  | .dft d :: ps, j, h, hd => by
    refine .cons (by simpa using hd 0 d (by simp)) (pick_vals r (fun k hk => h k (List.mem_cons_of_mem _ hk)) fun k d e => by
      have := hd (k + 1) d (by simpa using e)
      rw [show j + (k + 1) = j + 1 + k by omega] at this; exact this)
theorem OVs_get {g : Bg} {σ : St} {F : Hp} : ∀ {os : List OV} {vs : List V} {i : Nat} {o : OV}, OVs g σ F os vs → os[i]? = some o → ∃ v, vs[i]? = some v ∧ OV1 g σ F o v
  | [], _, _, _, h, e => by simp at e
  | o :: os, _, 0, _, h, e => by
    obtain ⟨v, r, rfl, h1, h2⟩ := h
    simp at e; subst e; exact ⟨v, rfl, h1⟩
  | o :: os, _, i + 1, _, h, e => by
    obtain ⟨v, r, rfl, h1, h2⟩ := h
    obtain ⟨v', q, z⟩ := OVs_get h2 (i := i) (by simpa using e)
    exact ⟨v', by simpa using q, z⟩
theorem pick_ovs {g : Bg} {σ : St} {F : Hp} {dv : Nat → V} {os : List OV} {vs : List V} (z : OVs g σ F os vs) : ∀ {ps : List Pm} {j : Nat} {os' : List OV}, pick os ps = some os' → (∀ i d, ps[i]? = some (.dft d) → Rep g.K g.mg F d (dv (j + i))) → OVs g σ F os' (pickV dv vs j ps)
  | [], _, _, e, _ => by simp only [pick, Option.some.injEq] at e; subst e; rfl
  | .arg i :: ps, j, os', e, hd => by
    simp only [pick] at e
    cases e1 : os[i]? with
    | none => rw [e1] at e; cases e
    | some o =>
      rw [e1] at e
      cases e2 : pick os ps with
      | none => rw [e2] at e; cases e
      | some os2 =>
        rw [e2] at e; cases e
        obtain ⟨v, q, z1⟩ := OVs_get z e1
        refine ⟨_, _, rfl, by rw [q]; exact z1, pick_ovs z e2 fun k d e => ?_⟩
        have := hd (k + 1) d (by simpa using e)
        rw [show j + (k + 1) = j + 1 + k by omega] at this; exact this
  | .dft d :: ps, j, os', e, hd => by
    simp only [pick] at e
    cases e2 : pick os ps with
    | none => rw [e2] at e; cases e
    | some os2 =>
      rw [e2] at e; cases e
      refine ⟨_, _, rfl, (show Rep g.K g.mg F d (dv j) by simpa using hd 0 d (by simp)), pick_ovs z e2 fun k d e => ?_⟩
      have := hd (k + 1) d (by simpa using e)
      rw [show j + (k + 1) = j + 1 + k by omega] at this; exact this
theorem OVs_len {g : Bg} {σ : St} {F : Hp} : ∀ {os : List OV} {vs : List V}, OVs g σ F os vs → vs.length = os.length
  | [], _, h => by simp only [OVs] at h; subst h; rfl
  | o :: os, _, h => by obtain ⟨v, r, rfl, _, h2⟩ := h; simp [OVs_len h2]
end
/-- no argument is a new thing (where arguments are put in another turn) -/
def noFresh : List OV → Bool
  | [] => true
  | .fresh _ :: _ => false
  | _ :: os => noFresh os
theorem noFresh_tmps : ∀ {os : List OV} {vs : List V}, noFresh os = true → tmps os vs = []
  | [], _, _ => by simp [tmps]
  | o :: os, [], h => by simp [tmps]
  | o :: os, v :: vs, h => by
    cases o with
    | fresh c => simp [noFresh] at h
    | val d => simp only [noFresh] at h; simp [tmps, tmp1, noFresh_tmps h]
    | slot i => simp only [noFresh] at h; simp [tmps, tmp1, noFresh_tmps h]
theorem pick_noFresh {os : List OV} (h : noFresh os = true) : ∀ {ps : List Pm} {os' : List OV}, pick os ps = some os' → noFresh os' = true := by
  have all : ∀ {os : List OV}, noFresh os = true → ∀ {i : Nat} {o : OV}, os[i]? = some o → ∀ c, o ≠ OV.fresh c := by
    intro os
    induction os with
    | nil => intro _ i o e; simp at e
    | cons o os ih =>
      intro h i p e c
      cases i with
      | zero => simp at e; subst e; intro z; subst z; simp [noFresh] at h
      | succ i => exact ih (by cases o <;> simp_all [noFresh]) (by simpa using e) c
  intro ps
  induction ps with
  | nil => intro os' e; simp only [pick, Option.some.injEq] at e; subst e; rfl
  | cons p ps ih =>
    intro os' e
    cases p with
    | arg i =>
      simp only [pick] at e
      cases e1 : os[i]? with
      | none => rw [e1] at e; cases e
      | some o =>
        rw [e1] at e
        cases e2 : pick os ps with
        | none => rw [e2] at e; cases e
        | some os2 =>
          rw [e2] at e; cases e
          cases o with
          | fresh c => exact absurd rfl (all h e1 c)
          | val d => simpa [noFresh] using ih e2
          | slot j => simpa [noFresh] using ih e2
    | dft d =>
      simp only [pick] at e
      cases e2 : pick os ps with
      | none => rw [e2] at e; cases e
      | some os2 => rw [e2] at e; cases e; simpa [noFresh] using ih e2
/-- a call whose arguments are put in the parameters' turn -/
def eCallK (f : FunSem) (ms : List ME) (ps : List Pm) : ME := fun ρ => (evU ms ρ).bind fun os ρ1 => match noFresh os with
  | true => lift (pick os ps) fun os' => doCall f os' ρ1
  | false => .no

/-! ### argument lists in two parts -/
theorem evU_append (ms ns : List ME) (ρ : Env) : evU (ms ++ ns) ρ = (evU ms ρ).bind fun os ρ1 => (evU ns ρ1).bind fun ps ρ2 => .ok (os ++ ps) ρ2 := by
  induction ms generalizing ρ with
  | nil =>
    simp only [List.nil_append, evU, RF.R.bind]
    cases evU ns ρ <;> rfl
  | cons m ms ih =>
    simp only [List.cons_append, evU]
    cases m ρ with
    | no => rfl
    | ex e ρ1 => rfl
    | ok o ρ1 =>
      simp only [RF.R.bind]
      rw [ih]
      cases evU ms ρ1 with
      | no => rfl
      | ex e ρ2 => rfl
      | ok os ρ2 =>
        simp only [RF.R.bind]
        cases evU ns ρ2 <;> rfl
section
variable {g : Bg} {W : WX} {σ : St} {H : Hp}
theorem tmps_append : ∀ {os ps : List OV} {vs us : List V}, vs.length = os.length → tmps (os ++ ps) (vs ++ us) = tmps ps us ++ tmps os vs
  | [], ps, vs, us, h => by
    have : vs = [] := List.length_eq_zero_iff.mp h
    subst this; simp [tmps]
  | o :: os, ps, [], us, h => by simp at h
  | o :: os, ps, v :: vs, us, h => by
    simp only [List.cons_append, tmps]
    rw [tmps_append (by simpa using h), List.append_assoc]
theorem OVs_append {F : Hp} : ∀ {os ps : List OV} {vs us : List V}, OVs g σ F os vs → OVs g σ F ps us → OVs g σ F (os ++ ps) (vs ++ us)
  | [], ps, _, us, h, h' => by simp only [OVs] at h; subst h; exact h'
  | o :: os, ps, _, us, h, h' => by
    obtain ⟨v, r, rfl, h1, h2⟩ := h
    exact ⟨v, r ++ us, rfl, h1, OVs_append h2 h'⟩
theorem rdA_append {ms ns : List ME} {Q : List V → Hp → Prop} (h : rdA g W (ms ++ ns) σ H Q) : rdA g W ms σ H fun vs H1 => rdA g W ns σ H1 fun us H2 => vs.length = ms.length ∧ us.length = ns.length ∧ Q (vs ++ us) H2 := by
  have evlen : ∀ {ms : List ME} {ρ ρ' : Env} {os : List OV}, evU ms ρ = .ok os ρ' → os.length = ms.length := by
    intro ms
    induction ms with
    | nil => intro ρ ρ' os e; simp only [evU] at e; cases e; rfl
    | cons m ms ih =>
      intro ρ ρ' os e
      simp only [evU] at e
      cases e1 : m ρ with
      | no => simp only [e1, RF.R.bind] at e; cases e
      | ex x ρ1 => simp only [e1, RF.R.bind] at e; cases e
      | ok o ρ1 =>
        simp only [e1, RF.R.bind] at e
        cases e2 : evU ms ρ1 with
        | no => simp only [e2] at e; cases e
        | ex x ρ2 => simp only [e2] at e; cases e
        | ok os2 ρ2 => simp only [e2] at e; cases e; simp [ih e2]
  obtain ⟨T, ρ, F, R, h⟩ := h
  refine ⟨T, ρ, F, R, ?_⟩
  rw [evU_append] at h
  cases e : evU ms ρ with
  | no => rw [e] at h; exact h
  | ex x ρ1 => rw [e] at h; exact h
  | ok os ρ1 =>
    rw [e] at h
    simp only [RF.R.bind] at h
    intro vs H1 F1 s1 ⟨R1, z1⟩
    refine ⟨tmps os vs ++ T, ρ1, F1, R1, ?_⟩
    cases e2 : evU ns ρ1 with
    | no => rw [e2] at h; exact h
    | ex x ρ2 => rw [e2] at h; exact Xw.mono s1 h
    | ok ps ρ2 =>
      rw [e2] at h
      intro us H2 F2 s2 ⟨R2, z2⟩
      refine ⟨by rw [OVs_len z1, evlen e], by rw [OVs_len z2, evlen e2], h (vs ++ us) H2 F2 (s1.trans s2) ⟨?_, OVs_append (z1.mono s2) z2⟩⟩
      rw [tmps_append (OVs_len z1), List.append_assoc]; exact R2
/-- behind the arguments: the call -/
theorem rdCallK {f : FunSem} {ms : List ME} {ps : List Pm} {Q : VK} {dv : Nat → V} (hd : ∀ F i d, ps[i]? = some (.dft d) → Rep g.K g.mg F d (dv i)) (h : rdE g W (eCallK f ms ps) σ H Q) : rdA g W ms σ H fun vs H1 => spF g.K g.mg f (pickV dv vs 0 ps) H1 Q (WE W σ) := by
  obtain ⟨T, ρ, F, R, h⟩ := h
  refine ⟨T, ρ, F, R, ?_⟩
  simp only [eCallK] at h
  cases e : evU ms ρ with
  | no => rw [e] at h; exact h
  | ex x ρ1 => rw [e] at h; exact h
  | ok os ρ1 =>
    rw [e] at h
    simp only [RF.R.bind] at h
    intro vs H1 F1 s1 ⟨R1, z1⟩
    cases hn : noFresh os with
    | false => simp only [hn] at h
    | true =>
      simp only [hn] at h
      cases hp : pick os ps with
      | none => simp only [hp, lift] at h
      | some os' =>
        simp only [hp, lift] at h
        refine doCall_sp (os := os') (T := T) (F := F1) (F0 := F) ⟨?_, pick_ovs z1 hp fun i d e => by simpa using hd F1 i d e⟩ s1 h
        rw [noFresh_tmps (pick_noFresh hn hp)]
        rw [noFresh_tmps hn] at R1
        exact R1
theorem rdCall {f : FunSem} {ms : List ME} {Q : VK} (h : rdE g W (eCall f ms) σ H Q) : rdA g W ms σ H fun vs H1 => spF g.K g.mg f vs H1 Q (WE W σ) := by
  obtain ⟨T, ρ, F, R, h⟩ := h
  refine ⟨T, ρ, F, R, ?_⟩
  simp only [eCall] at h
  cases e : evU ms ρ with
  | no => rw [e] at h; exact h
  | ex x ρ1 => rw [e] at h; exact h
  | ok os ρ1 =>
    rw [e] at h
    simp only [RF.R.bind] at h
    intro vs H1 F1 s1 r
    exact doCall_sp r s1 h
end
/-! ### keywords -/
def SKw (X : Cx) (g : Bg) (W : WX) (kws : List Keyword) (ms : List ME) : Prop := PK X kws (rdA g W ms)
section
variable {X : Cx} {g : Bg} {W : WX} {e : Expr} {m : ME} {kws : List Keyword} {ms : List ME}
theorem SKw.nil : SKw X g W [] [] := ⟨fun p pins s σ H Q I q => pk_nil.run p pins s σ H Q I (rdA_nil q)⟩
theorem SKw.cons {nm : Option Str} {kpos : Pos} (h : SE X g W e m) (t : SKw X g W kws ms) : SKw X g W (⟨nm, e, kpos⟩ :: kws) (m :: ms) :=
  ⟨fun p pins s σ H Q I q => (pk_cons (nm := nm) (kpos := kpos) h t).run p pins s σ H Q I (rdA_cons q)⟩
theorem kw_all {env : PySem.Env} {pos : Pos} : ∀ {kws : List Keyword}, kws.all (fun k => k.arg.isSome) = true → (backToKw pos (keywordEach kws env)).all (·.1.isSome) = true ∧ (backToKw pos (keywordEach kws env)).any (·.1.isNone) = false ∧ (backToKw pos (keywordEach kws env)).filterMap (·.1) = kws.filterMap (·.arg)
  | [], _ => ⟨rfl, rfl, rfl⟩
  | ⟨nm, v, p⟩ :: kws, h => by
    simp only [List.all_cons, Bool.and_eq_true] at h
    obtain ⟨h1, h2, h3⟩ := kw_all (env := env) (pos := pos) h.2
    cases nm with
    | none => simp at h
    | some nm =>
      refine ⟨?_, ?_, ?_⟩
      · show (true && (backToKw pos (keywordEach kws env)).all (·.1.isSome)) = true
        simpa using h1
      · show (false || (backToKw pos (keywordEach kws env)).any (·.1.isNone)) = false
        simpa using h2
      · show nm :: (backToKw pos (keywordEach kws env)).filterMap (·.1) = _
        rw [h3]; rfl
end
section
variable {X : Cx} {g : Bg} {W : WX} {es : List Expr} {ms kms : List ME} {kws : List Keyword} {k : Nat} {f : Addr} {fd : FuncData} {ps : List Str} {fs : FunSem} {x : Str} {p pos : Pos} {pms : List Pm}
theorem run_fnP {pins : List (Addr × Obj)} {σ : St} {H : Hp} {s : Shared} {Q : VK} {us ws : List Value} {vs zs : List V} {n : Nat} {ks : List Str} {sp : Sp} {E : XK} {dv : Nat → V} {du : Nat → Value} (Fn : FnOk X.prog X.w X.K X.mg X.base (L2.CX X.prog X.w) k f fd ps sp) (hr : Room k X.A)
    (hd : ∀ j d, pms[j]? = some (.dft d) → RelV (dv j) (du j)) (hto : ∀ (s : Shared) (us ws : List Value), X.K.In s.heap → us.length = n → ws.length = ks.length → BindsTo s fd ⟨us, ks.zip ws⟩ (ps.zip (pickU du (us ++ ws) 0 pms))) (hix : ∀ i, Pm.arg i ∈ pms → i < n + ks.length)
    (hx : PassesAt (L2.CX X.prog X.w) X σ E) (I : Inv X pins σ H s) (r : Vals vs us) (rz : Vals zs ws) (l1 : vs.length = n) (l2 : zs.length = ks.length) (h : sp (pickV dv (vs ++ zs) 0 pms) H Q E) :
    wpAny (model X.prog X.w) X.A (call (.ref f) us (ks.zip ws)) (EP X pins σ Q) X.xe s := by
  have r2 : Vals (pickV dv (vs ++ zs) 0 pms) (pickU du (us ++ ws) 0 pms) := pick_vals (r.append rz) (fun i hi => by rw [List.length_append, l1, l2]; exact hix i hi) fun i d e => by simpa using hd i d e
  refine wpAny_call (codeAny_mono (Fn.run X.A X.stack s H ⟨us, ks.zip ws⟩ _ _ Q E hr I.env0 (hto s us ws I.kIn (r.length.symm.trans l1) (rz.length.symm.trans l2)) r2 h) fun r s' hq => ?_)
  cases r with
  | error e => exact hx pins H s e s' I hq
  | ok fl =>
    cases fl with
    | ret u => exact I.after hq
    | next => exact False.elim hq
    | brk => exact False.elim hq
    | cont => exact False.elim hq
/-- f(e, .., k = v, ..) of a def of the module -/
theorem SE.callK (hK : X.K = g.K) (hG : md X = g.mg) (Fn : FnOk X.prog X.w X.K X.mg X.base (L2.CX X.prog X.w) k f fd ps (spF X.K (md X) fs)) (hr : Room k X.A) (hg : Gl X x) (hm : X.mg x = some (.ref f)) (hk : PySem.W.keepIn X.K (.ref f) = true)
    (hb : BindP X.K (md X) fd ps es.length (kws.filterMap (·.arg)) pms) (tk : Takes X W) (ha : SA X g W es ms) (hkw : SKw X g W kws kms) (hl : ms.length = es.length) (hl2 : kms.length = (kws.filterMap (·.arg)).length) (hs : es.all notStar = true) (hn : kws.all (fun k => k.arg.isSome) = true) (hdb : (x == ("__debug__" : Str)) = false) :
    SE X g W (.Call (.Name x p) es kws pos) (eCallK fs (ms ++ kms) pms) := by
  refine ⟨fun pins s σ H Q I h => ?_⟩
  obtain ⟨⟨du, dv, hd, hto⟩, hix⟩ := hb
  rw [hK, hG] at hd
  have q := rdA_append (rdCallK (dv := dv) (fun F i d e => (hd i d e).2 F) h)
  obtain ⟨k1, k2, k3⟩ := kw_all (env := X.env) (pos := pos) hn
  refine wpAny_Call_Name_kw (ld_glob I hg hm ?_ hdb)
  rw [← hK, ← hG] at q
  have fin : ∀ us ws s2 vs zs H2, Inv X pins σ H2 s2 → Vals vs us → Vals zs ws → vs.length = ms.length → zs.length = kms.length → spF X.K (md X) fs (pickV dv (vs ++ zs) 0 pms) H2 Q (WE W σ) →
      wpAny (model X.prog X.w) X.A (call (.ref f) us ((kws.filterMap (·.arg)).zip ws)) (EP X pins σ Q) X.xe s2 := fun us ws s2 vs zs H2 I2 r rz l1 l2 q2 =>
    run_fnP Fn hr (fun j d e => (hd j d e).1) hto hix (passAt tk σ) I2 r rz (l1.trans hl) (l2.trans hl2) q2
  cases es with
  | nil =>
    refine PySem.W.callWith_KW0 (h₀ := X.base) (first := []) I.ok.mod.kin hk k1 ?_ (by rw [k2]; rfl)
    have : ms = [] := List.length_eq_zero_iff.mp hl
    subst this
    refine thn (hkw.run pos pins s σ H _ I (rdA_nil q)) fun ws s2 ⟨zs, H2, I2, rz, l1, l2, q2⟩ => ⟨I2.kIn, ?_⟩
    rw [k3]
    exact fin [] ws s2 [] zs H2 I2 .nil rz rfl l2 q2
  | cons e es =>
    have hs' := hs
    simp only [List.all_cons, Bool.and_eq_true] at hs'
    refine PySem.W.callWith_KW (h₀ := X.base) I.ok.mod.kin hk k1 (thn (ha.run pos pins s σ H _ I q) fun us s1 ⟨vs, H1, I1, r, q⟩ => ?_) (by rw [k2, star_any pos hs]; rfl) (star_ok hs'.1)
    refine thn (hkw.run pos pins s1 σ H1 _ I1 q) fun ws s2 ⟨zs, H2, I2, rz, l1, l2, q2⟩ => ⟨I2.kIn, ?_⟩
    rw [k3]
    exact fin us ws s2 vs zs H2 I2 r rz l1 l2 q2
/-- f(e, ..) of a def of the module, every parameter written -/
theorem SE.call {e : Expr} (hK : X.K = g.K) (hG : md X = g.mg) (Fn : FnOk X.prog X.w X.K X.mg X.base (L2.CX X.prog X.w) k f fd ps (spF X.K (md X) fs)) (hr : Room k X.A) (hg : Gl X x) (hm : X.mg x = some (.ref f)) (hk : PySem.W.keepIn X.K (.ref f) = true)
    (hb : Binds X.K fd ps []) (tk : Takes X W) (ha : SA X g W (e :: es) ms) (hs : (e :: es).all notStar = true) (hdb : (x == ("__debug__" : Str)) = false) :
    SE X g W (.Call (.Name x p) (e :: es) [] pos) (eCall fs ms) := by
  have hs' := hs
  simp only [List.all_cons, Bool.and_eq_true] at hs'
  refine PEimp (pe_callSD (dvs := []) (ds := []) (E := WE W) Fn hr hg hm hk hb .nil (fun σ => passAt tk σ) ha hdb (star_ok hs'.1) (star_any pos hs'.2)) fun σ H Q h => rdA_mono (rdCall h) fun vs H1 q => ?_
  show spF X.K (md X) fs (vs ++ []) H1 Q (WE W σ)
  rw [List.append_nil, hK, hG]; exact q
end
end RF
end
section
/-! R8: operators and built-ins. -/
namespace RF
open PySem L2

/-! ### rules of the layer, widened -/
section
open PySem.Spec PyProof.Rows
variable {X : Cx}
/-- xs + ys of two lists that can be read -/
def rCatS (K : PySem.W.Frag) : R2 := fun x y H Q => ∃ l b xs zs, x = .ref l ∧ y = .ref b ∧ SqL K H l xs ∧ SqL K H b zs ∧ xs.length + zs.length ≤ sizeLine ∧ ∀ p, H p = none → Q (.ref p) (upd H p (.lst (xs ++ zs)))
theorem op_catS : OpR X (binaryOp .Add) (rCatS X.K) := by
  intro pins s σ H x y v u Q I rx ry h
  obtain ⟨l, b, xs, zs, rfl, rfl, hH, hB, hz, q⟩ := h
  cases rx
  cases ry
  obtain ⟨its, r, ⟨⟨c1, d1, t1, s1⟩, n, e, hc, hd, hs⟩, z⟩ := I.list hH
  obtain ⟨its2, r2, ⟨⟨c2, d2, t2, s2⟩, n2, e2, hc2, hd2, hs2⟩, z2⟩ := I.list hB
  simp only at hc hd hs hc2 hd2 hs2
  subst hc hd hs hc2 hd2 hs2
  have ea : its.toArray ++ its2.toArray = (its ++ its2).toArray := by simp
  refine concat_meets ⟨_, e, rfl⟩ ⟨_, e2, rfl⟩ noFill_list_add seq_list_add PySem.F.slot_list_add PySem.F.entry_list_add (PySem.F.args_list_add_2 _ _)
    (PyProof.Rows.list_addW l b its.toArray its2.toArray n n2 none none s1 s2 (by rw [List.size_toArray, List.size_toArray, ← r.length, ← r2.length]; exact hz)) ⟨e, e2, ?_⟩
  rw [ea]
  exact ⟨.ref _, _, I.lnew (t' := s.toks) (r.append r2) (by rw [List.length_append]; omega), rfl, q _ I.fresh⟩
/-- () + t -/
def rCatT0 (K : PySem.W.Frag) : R2 := fun x y H Q => ∃ a b ys, x = .ref a ∧ y = .ref b ∧ SqT K H a [] ∧ SqT K H b ys ∧ Q (.ref b) H
theorem op_catT0 : OpR X (binaryOp .Add) (rCatT0 X.K) := by
  intro pins s σ H x y v u Q I rx ry h
  obtain ⟨a, b, ys, rfl, rfl, ha, hb, q⟩ := h
  cases rx
  cases ry
  obtain ⟨its, r1, ⟨⟨c1, d1, t1, s1⟩, e, hc, n, hs⟩, _⟩ := I.tuple ha
  obtain ⟨its2, r2, ⟨⟨c2, d2, t2, s2⟩, e2, hc2, n2, hs2⟩, _⟩ := I.tuple hb
  simp only at hc hs hc2 hs2
  subst hc hs hc2 hs2
  have h0 : its = [] := by
    have := r1.length
    simp at this
    exact List.length_eq_zero_iff.mp this.symm
  refine concat_meets ⟨_, e, rfl⟩ ⟨_, e2, rfl⟩ noFill_tuple_add seq_tuple_add PySem.F.slot_tuple_add PySem.F.entry_tuple_add (PySem.F.args_tuple_add_2 _ _)
    (PyProof.Rows.tuple_addW0 a b its.toArray its2.toArray n n2 d1 d2 s1 s2 (by rw [h0]; rfl)) ⟨e, e2, ⟨.ref b, H, I, rfl, q⟩⟩
/-- t[:], all of it: the tuple itself -/
theorem getItem_tuple_whole {prog : Program} {w : World} {A : Around} {E : Value → Shared → Prop} {s : Shared} {t sl : Addr} {items : Array Value} {vl vu : Value} {lo hi : Option Int} {Q : Value → Shared → Prop} (ht : PyProof.Rows.IsTup s.heap t items) (hs : s.heap.IsSliceOf sl vl vu .none) (pl : IsPart vl lo) (pu : IsPart vu hi)
    (hw : HT.sIx items.size 0 lo = 0 ∧ HT.sIx items.size items.size hi = items.size) (h : Q (.ref t) s) : wpAny (model prog w) A (getItem (.ref t) (.ref sl)) Q E s := by
  obtain ⟨os, hos, hcs, hds⟩ := id hs
  have hTs : s.TypeIs (.ref sl) "slice" := ⟨os, hos, hcs⟩
  unfold getItem
  try with_reducible refine wpAny_holding ?_
  first | refine wpAny_bind (wpAny_pure ?_) | skip
  refine wpAny_bind (wpAny_sequenceKey ht.typeIs (by decide) ?_)
  refine wpAny_bind (wpAny_callSpecial?_slot (name := Str.ofString "__getitem__") ht.typeIs PyProof.Rows.slot_tuple_getitem
    (wpAny_call_entry PyProof.Rows.slot_tuple_getitem ht.typeIs PyProof.Rows.entry_tuple_getitem ?_ (PyProof.Rows.args_tuple_getitem _ _)))
  show wpAny _ _ (Builtin.Tuple.tupleItemsOf (.ref t) >>= _) _ _ s
  refine wpAny_bind (PyProof.Rows.tupleItemsOf_ ht ?_)
  refine wpAny_bind (wpAny_typeOf hTs ?_)
  rw [if_pos (by decide)]
  refine wpAny_bind (HT.sliceApplied_gen hs pl pu ?_)
  have hyes : (((HT.sIx items.size 0 lo : Nat) : Int) == 0 && (1 : Int) == 1 && (HT.sIx items.size items.size hi - HT.sIx items.size 0 lo) == items.size) = true := by
    rw [hw.1, hw.2]; simp
  show wpAny _ _ (if (((HT.sIx items.size 0 lo : Nat) : Int) == 0 && (1 : Int) == 1 && (HT.sIx items.size items.size hi - HT.sIx items.size 0 lo) == items.size) = true then _ else _) _ _ s
  rw [if_pos hyes]
  refine wpAny_bind ?_
  refine wpAny_bind (wpAny_typeOf ht.typeIs (wpAny_pure ?_))
  show wpAny _ _ (if ((Value.type "tuple" == Value.type "tuple") = true) then _ else _) _ _ s
  rw [if_pos (by decide)]
  exact wpAny_bind (wpAny_rule (wpAny_pure ⟨_, rfl, wpAny_pure h⟩))
end
end RF
namespace RF
open PySem PySem.Spec L2 PyProof.Rows
open AutoSeq1 (wpAny_loadPart')
/-! ### enumerate of a tuple -/
theorem meets_enumerate_newT (l : Addr) (items : Array Value) (n : Nat) (dct : Option Addr) (sl : Array (Option Value)) :
    Meets (Builtin.«enumerate.__new__» ⟨[.type "enumerate", .ref l], []⟩) (fun _ R s => s.heap.get? l = some { cls := .type "tuple", dict := dct, data := .seq items n, slots := sl } ∧
      R (.ok (.ret (.ref (s.heap.push { cls := .type "tuple_iterator", data := .fields #[.ref l, .int 0 0] }).objs.size)))
        { s with heap := (s.heap.push { cls := .type "tuple_iterator", data := .fields #[.ref l, .int 0 0] }).push { cls := .type "enumerate", data := .fields #[.none, .bool false, .ref s.heap.objs.size, rawInt 0, .none, .none] } }) :=
  .of_wp fun prog w A R s h => by
    obtain ⟨hp, g, d, tk, os⟩ := s; obtain ⟨hl, h⟩ := h
    have hsub := sub_enumerate
    have hL : Heap.IsTuple (Shared.heap ⟨hp, g, d, tk, os⟩) l items := ⟨_, hl, rfl, n, rfl⟩
    wp_walk using wpAny_loadPart' hl
    refine wpAny_stack_any fun st => wpAny_pure ?_
    split
    · rename_i c _ _ _ _ _
      cases (c == Value.type "enumerate")
      · wp_walk using wpAny_loadPart' hl, wpAny_pyIter_tuple hL
        exact ⟨_, rfl, h⟩
      · wp_walk using wpAny_loadPart' hl, wpAny_pyIter_tuple hL
        exact ⟨_, rfl, h⟩
    · wp_walk using wpAny_loadPart' hl, wpAny_pyIter_tuple hL
      exact ⟨_, rfl, h⟩
theorem call_enumerate_tuple {prog : Program} {w : World} {A : Around} {E : Value → Shared → Prop} {s : Shared} {l : Addr} {items : Array Value} {Q : Value → Shared → Prop} (hL : s.heap.IsTuple l items)
    (h : ∀ h', IsEnum h' (s.heap.objs.size + 1) s.heap.objs.size 0 .none → h'.IsTupleIter s.heap.objs.size l 0 → h'.objs.size = s.heap.objs.size + 2 →
      (∀ b o, s.heap.get? b = some o → h'.get? b = some o) → Q (.ref (s.heap.objs.size + 1)) { s with heap := h' }) :
    wpAny (model prog w) A (call (.type "enumerate") [.ref l]) Q E s := by
  obtain ⟨⟨c, dct, dt, sl⟩, hl, hc, n, hd⟩ := hL
  replace hc : c = .type "tuple" := hc
  replace hd : dt = .seq items n := hd
  subst hc hd
  refine callType_new F.called_enumerate (by decide) (F.typeCall_enumerate_1 _) (F.newCall_enumerate_1 _) (fun obj => F.args_object_init_2 obj _) F.entry_enumerate_new
    (meets_enumerate_newT l items n dct sl) ⟨hl, ?_⟩
  have hz : (s.heap.push { cls := .type "tuple_iterator", data := .fields #[.ref l, .int 0 0] }).objs.size = s.heap.objs.size + 1 := Heap.size_push ..
  show _ ∧ _
  rw [hz]
  have he : IsEnum ((s.heap.push { cls := .type "tuple_iterator", data := .fields #[.ref l, .int 0 0] }).push
      { cls := .type "enumerate", data := .fields #[.none, .bool false, .ref s.heap.objs.size, rawInt 0, .none, .none] }) (s.heap.objs.size + 1) s.heap.objs.size 0 .none := by
    have := Heap.get?_push_size (s.heap.push { cls := .type "tuple_iterator", data := .fields #[.ref l, .int 0 0] })
      (o := { cls := .type "enumerate", data := .fields #[.none, .bool false, .ref s.heap.objs.size, rawInt 0, .none, .none] }) rfl
    rw [hz] at this; exact this
  refine ⟨⟨_, he, rfl⟩, h _ he ⟨_, Heap.get?_push_of_some _ (Heap.get?_push_size _ rfl), rfl, rfl⟩ (by rw [Heap.size_push, hz]) fun b o x => Heap.get?_push_of_some _ (Heap.get?_push_of_some _ x)⟩
theorem enumT_end {prog : Program} {w : World} {A : Around} {E : Value → Shared → Prop} {s : Shared} {e it t : Addr} {j : Nat} {items : Array Value} {i : Int} {old : Value} {Q : Option Value → Shared → Prop} (hh : A.handled = none)
    (he : IsEnum s.heap e it i old) (hit : s.heap.IsTupleIter it t j) (ht : s.heap.IsTuple t items) (hx : items[j]? = none)
    (hQ : ∀ h', Heap.ExtBut it s.heap h' → Q none { s with heap := h' }) : wpAny (model prog w) A (pyNext (.ref e)) Q E s := by
  have hT : s.TypeIs (.ref e) "enumerate" := ⟨_, he, rfl⟩
  unfold pyNext
  refine wpAny_bind (wpAny_attempt (wpAny_callSpecial?_slot (name := Str.ofString "__next__") hT F.slot_enumerate_next
    (wpAny_call_entry F.slot_enumerate_next hT F.entry_enumerate_next ?_ (F.args_enumerate_next_1 _))))
  show wpAny _ _ (field (.ref e) 2 >>= _) _ _ _
  refine wpAny_bind (wpAny_field he rfl (x := .ref it) rfl ?_)
  refine wpAny_bind (wpAny_nextOf_tuple_end hh hit ht hx fun h' x he' hx' => ?_)
  obtain ⟨o, ho, hc⟩ := hx'
  refine wpAny_bind (wpAny_isInstance (T := "StopIteration") (b := true) ⟨o, ho, hc⟩ isSubtype_stop ?_)
  exact wpAny_pure (hQ _ he')
def IteT (K : PySem.W.Frag) (a : Addr) : It :=
  ⟨fun i H => ∃ (xs : List V) (x : V), SqT K H a xs ∧ xs[i]? = some x, fun i H v H' => ∃ T x o, v = .ref T ∧ H T = none ∧ Obj.dict o = none ∧ H' = upd H T (.frz o (.tup [.int (i : Nat), x])) ∧ ∀ xs, SqT K H a xs → xs[i]? = some x, fun i H => ∃ xs : List V, SqT K H a xs ∧ xs.length ≤ i⟩
theorem turn_enumT {P : Program} {w : World} {K : PySem.W.Frag} {elts : List Expr} {kk : Nat} {tpos : Pos} (a e it : Addr) (ha : a < it) :
    Turn P w K (.Tuple elts kk tpos) (IteT K a) [e, it] e (fun i h => (∃ old, IsEnum h e it ((i : Nat) : Int) old) ∧ h.IsTupleIter it a i ∧ e ≠ it ∧ e ≠ a) where
  mem := by simp
  obj := fun i h st b hb => by
    obtain ⟨⟨old, he⟩, ⟨o, ho, hc, hd⟩, _⟩ := st
    have e' : b = e ∨ b = it := by simpa using hb
    rcases e' with z | z
    · rw [z]; exact ⟨_, he, fun v q => nomatch q⟩
    · rw [z]; exact ⟨o, ho, fun v q => by rw [hd] at q; cases q⟩
  keep := fun i h h' st k => let ⟨⟨old, he⟩, hi, hne⟩ := st; ⟨⟨old, k e (by simp) _ he⟩, hi.at fun o q => k it (by simp) o q, hne⟩
  item := by
    intro X hP hw hK hc i pins s σ H E I hf st hg
    subst hP hw hK
    obtain ⟨⟨old, he⟩, hit, hne, hea⟩ := st
    obtain ⟨xs, x, hq, hx⟩ := hg
    obtain ⟨its, rv, p, hz⟩ := I.tuple hq
    obtain ⟨u, hu, ru⟩ := rv.get hx
    have hel : e < s.heap.objs.size := Heap.lt_size he
    have hil : it < s.heap.objs.size := by obtain ⟨_, q, _⟩ := hit; exact Heap.lt_size q
    have hlt : i < its.toArray.size := by
      have := (List.getElem?_eq_some_iff.mp hu).1
      simpa using this
    have pT : s.heap.IsTuple a its.toArray := p
    refine wpAny_pyNext_enum_itemD (Draws.tuple (A := X.A.in1) (I.ok.hd hc) it a (Nat.ne_of_lt ha) its.toArray) he ⟨hit, pT⟩ hlt hne (by simp [hne, hea]) fun y h' tk hy ho hit' hT hsz hk => ?_
    have hyu : y = u := by
      have hu' : its.toArray[i]? = some u := by simpa using hu
      rw [hu'] at hy; exact (Option.some.inj hy).symm
    subst hyu
    refine ⟨_, rfl, wpAny_letOwnedTupleGo_enum (s := { s with heap := h', toks := tk + 1 }) ho fun h'' he' sb => ?_⟩
    have hT2 : h''.get? s.heap.objs.size = some { cls := .type "tuple", data := .seq #[.int i tk, y] } := (sb.2 _ (Nat.ne_of_gt hel)).trans hT
    let ob : Obj := { cls := .type "tuple", data := .seq #[.int i tk, y] }
    have new : ObjOk X.prog X.w (upd H s.heap.objs.size (.frz ob (.tup [.int (i : Nat), x]))) h'' s.heap.objs.size (.frz ob (.tup [.int (i : Nat), x])) :=
      ⟨hT2, by show 2 ≤ sizeLine; decide, [.int i tk, y], .cons ⟨_, rfl⟩ (.cons ru .nil), ⟨_, hT2, rfl, _, rfl⟩⟩
    have I1 : Inv X pins σ (upd H s.heap.objs.size (.frz ob (.tup [.int (i : Nat), x]))) { s with heap := h'', toks := tk + 1 } :=
      I.turnedNew (ch := [e, it]) (fun b ob hb q => (sb.2 b (fun z => hb (by simp [z]))).trans (hk b ob (fun z => hb (by simp [z])) (fun z => hb (by simp [z])) q)) hf (Nat.le_refl _) new
    refine ⟨.ref s.heap.objs.size, _, I1, rfl, ⟨_, x, ob, rfl, I.hok.fresh (Nat.le_refl _), rfl, rfl, fun ys hy => by rw [I.tuple_inj hy hq]; exact hx⟩, ⟨⟨y, ?_⟩, hit'.1.at fun o q => (sb.2 it (Ne.symm hne)).trans q, hne, hea⟩, fun b hb => ?_⟩
    · have e1 : ((i + 1 : Nat) : Int) = (i : Int) + 1 := by omega
      rw [e1]; exact he'
    · have hb' : b < s.heap.objs.size := by
        have e' : b = e ∨ b = it := by simpa using hb
        rcases e' with z | z
        · rw [z]; exact hel
        · rw [z]; exact hil
      rw [upd_ne (Nat.ne_of_lt hb')]
      exact (hf b hb).1
  done := by
    intro X hP hw hK hc i pins s σ H E I hf st hg
    subst hP hw hK
    obtain ⟨⟨old, he⟩, hit, hne, hea⟩ := st
    obtain ⟨xs, hq, hx⟩ := hg
    obtain ⟨its, rv, p, hz⟩ := I.tuple hq
    obtain ⟨f0, f1, f2, f3, f4, f5⟩ := hf it (by simp)
    have hl := rv.length
    have pT : s.heap.IsTuple a its.toArray := p
    exact enumT_end (I.ok.hd hc) he hit pT (by simp; omega) fun h' eb => ⟨rfl, I.turned (t' := s.toks) (fun b o hb q => eb b o hb q) f0 f1 f3 f4 f5⟩
  self := fun A i s Q E st h => let ⟨⟨_, he⟩, _⟩ := st; wpAny_pyIter_enum he h
def iEnumT (K : PySem.W.Frag) (ta : TA) : TI := fun σ H R => ta σ H fun vs H1 => ∃ a xs, vs = [.ref a] ∧ SqT K H1 a xs ∧ R (IteT K a) H1
theorem pi_enumT {X : Cx} {e : Expr} {ta : TA} {p pos tpos : Pos} {elts : List Expr} {kk : Nat} (hg : Gl X "enumerate") (hm : X.mg "enumerate" = none) (ha : PA X [e] ta) (hs : starEach [e] X.env = [(false, eval e X.env)] := by rfl) :
    PI X (.Tuple elts kk tpos) (.Call (.Name "enumerate" p) [e] [] pos) (iEnumT X.K ta) := by
  refine ⟨fun pins s σ H R I h => ?_⟩
  refine Call_ (ld_blt I hg hm boot_enumerate (PyProof.Rows.callWith_type1 (thn (ha.run pos pins s σ H _ I h) fun us s1 ⟨vs, H1, I1, r1, q1⟩ => ?_) hs rfl))
  obtain ⟨a, xs, ex, hq, q⟩ := q1
  subst ex
  cases r1 with
  | cons r rr =>
    cases rr
    cases r
    obtain ⟨its, rv, p', hz⟩ := I1.tuple hq
    have hal : a < s1.heap.objs.size := p'.lt
    refine call_enumerate_tuple (show s1.heap.IsTuple a its.toArray from p') fun h' he hit hsz hk => wpAny_pyIter_enum he ?_
    have I2 : Inv X pins σ H1 { s1 with heap := h' } := I1.kept (t' := s1.toks) hk
    refine ⟨s1.heap.objs.size + 1, [s1.heap.objs.size + 1, s1.heap.objs.size], _, _, H1, rfl, I2, turn_enumT a (s1.heap.objs.size + 1) s1.heap.objs.size hal, ⟨⟨.none, he⟩, hit, Nat.succ_ne_self _, Nat.ne_of_gt (Nat.lt_succ_of_lt hal)⟩, fun b hb => ?_, q⟩
    have e' : b = s1.heap.objs.size + 1 ∨ b = s1.heap.objs.size := by simpa using hb
    have hle : s1.heap.objs.size ≤ b := by
      rcases e' with z | z
      · rw [z]; exact Nat.le_add_right _ _
      · rw [z]; exact Nat.le_refl _
    exact I1.fpOk hle (I1.hok.fresh hle)
def IteL (K : PySem.W.Frag) (a : Addr) : It :=
  ⟨fun i H => ∃ (xs : List V) (x : V), SqL K H a xs ∧ xs[i]? = some x, fun i H v H' => ∃ T x o, v = .ref T ∧ H T = none ∧ Obj.dict o = none ∧ H' = upd H T (.frz o (.tup [.int (i : Nat), x])) ∧ ∀ xs, SqL K H a xs → xs[i]? = some x, fun i H => ∃ xs : List V, SqL K H a xs ∧ xs.length ≤ i⟩
theorem turn_enumL {P : Program} {w : World} {K : PySem.W.Frag} {elts : List Expr} {kk : Nat} {tpos : Pos} (a e it : Addr) :
    Turn P w K (.Tuple elts kk tpos) (IteL K a) [e, it] e (fun i h => (∃ old, IsEnum h e it ((i : Nat) : Int) old) ∧ h.IsListIter it a i ∧ e ≠ it) where
  mem := by simp
  obj := fun i h st b hb => by
    obtain ⟨⟨old, he⟩, ⟨o, ho, hc, hd⟩, _⟩ := st
    have e' : b = e ∨ b = it := by simpa using hb
    rcases e' with z | z
    · rw [z]; exact ⟨_, he, fun v q => nomatch q⟩
    · rw [z]; exact ⟨o, ho, fun v q => by rw [hd] at q; cases q⟩
  keep := fun i h h' st k => let ⟨⟨old, he⟩, hi, hne⟩ := st; ⟨⟨old, k e (by simp) _ he⟩, hi.at fun o q => k it (by simp) o q, hne⟩
  item := by
    intro X hP hw hK hc i pins s σ H E I hf st hg
    subst hP hw hK
    obtain ⟨⟨old, he⟩, hit, hne⟩ := st
    obtain ⟨xs, x, hq, hx⟩ := hg
    obtain ⟨its, rv, p, hz⟩ := I.list hq
    obtain ⟨u, hu, ru⟩ := rv.get hx
    have hel : e < s.heap.objs.size := Heap.lt_size he
    have hil : it < s.heap.objs.size := by obtain ⟨_, q, _⟩ := hit; exact Heap.lt_size q
    refine wpAny_pyNext_enum_item he hit p.isList (x := u) (by rw [List.getElem?_toArray]; exact hu) hne fun h' ho hit' hT hsz hk => ?_
    refine ⟨_, rfl, wpAny_letOwnedTupleGo_enum (s := { s with heap := h', toks := s.toks + 1 }) ho fun h'' he' sb => ?_⟩
    have hT2 : h''.get? s.heap.objs.size = some { cls := .type "tuple", data := .seq #[.int i s.toks, u] } := (sb.2 _ (Nat.ne_of_gt hel)).trans hT
    let ob : Obj := { cls := .type "tuple", data := .seq #[.int i s.toks, u] }
    have new : ObjOk X.prog X.w (upd H s.heap.objs.size (.frz ob (.tup [.int (i : Nat), x]))) h'' s.heap.objs.size (.frz ob (.tup [.int (i : Nat), x])) :=
      ⟨hT2, by show 2 ≤ sizeLine; decide, [.int i s.toks, u], .cons ⟨_, rfl⟩ (.cons ru .nil), ⟨_, hT2, rfl, _, rfl⟩⟩
    have I1 : Inv X pins σ (upd H s.heap.objs.size (.frz ob (.tup [.int (i : Nat), x]))) { s with heap := h'', toks := s.toks + 1 } :=
      I.turnedNew (ch := [e, it]) (fun b ob hb q => (sb.2 b (fun z => hb (by simp [z]))).trans (hk b ob (fun z => hb (by simp [z])) (fun z => hb (by simp [z])) q)) hf (Nat.le_refl _) new
    refine ⟨.ref s.heap.objs.size, _, I1, rfl, ⟨_, x, ob, rfl, I.hok.fresh (Nat.le_refl _), rfl, rfl, fun ys hy => by rw [I.list_inj hy hq]; exact hx⟩, ⟨⟨u, ?_⟩, hit'.at fun o q => (sb.2 it (Ne.symm hne)).trans q, hne⟩, fun b hb => ?_⟩
    · have e1 : ((i + 1 : Nat) : Int) = (i : Int) + 1 := by omega
      rw [e1]; exact he'
    · have hb' : b < s.heap.objs.size := by
        have e' : b = e ∨ b = it := by simpa using hb
        rcases e' with z | z
        · rw [z]; exact hel
        · rw [z]; exact hil
      rw [upd_ne (Nat.ne_of_lt hb')]
      exact (hf b hb).1
  done := by
    intro X hP hw hK hc i pins s σ H E I hf st hg
    subst hP hw hK
    obtain ⟨⟨old, he⟩, hit, hne⟩ := st
    obtain ⟨xs, hq, hx⟩ := hg
    obtain ⟨its, rv, p, hz⟩ := I.list hq
    obtain ⟨f0, f1, f2, f3, f4, f5⟩ := hf it (by simp)
    have hl := rv.length
    refine wpAny_pyNext_enum_end (I.ok.hd hc) he hit p.isList (by rw [List.getElem?_toArray]; exact List.getElem?_eq_none (by omega)) fun h' eb => ?_
    exact ⟨rfl, I.turned (t' := s.toks) (fun b o hb q => eb b o hb q) f0 f1 f3 f4 f5⟩
  self := fun A i s Q E st h => let ⟨⟨_, he⟩, _⟩ := st; wpAny_pyIter_enum he h
def iEnumL (K : PySem.W.Frag) (ta : TA) : TI := fun σ H R => ta σ H fun vs H1 => ∃ a xs, vs = [.ref a] ∧ SqL K H1 a xs ∧ R (IteL K a) H1
theorem pi_enumL {X : Cx} {e : Expr} {ta : TA} {p pos tpos : Pos} {elts : List Expr} {kk : Nat} (hg : Gl X "enumerate") (hm : X.mg "enumerate" = none) (ha : PA X [e] ta) (hs : starEach [e] X.env = [(false, eval e X.env)] := by rfl) :
    PI X (.Tuple elts kk tpos) (.Call (.Name "enumerate" p) [e] [] pos) (iEnumL X.K ta) := by
  refine ⟨fun pins s σ H R I h => ?_⟩
  refine Call_ (ld_blt I hg hm boot_enumerate (PyProof.Rows.callWith_type1 (thn (ha.run pos pins s σ H _ I h) fun us s1 ⟨vs, H1, I1, r1, q1⟩ => ?_) hs rfl))
  obtain ⟨a, xs, ex, hq, q⟩ := q1
  subst ex
  cases r1 with
  | cons r rr =>
    cases rr
    cases r
    obtain ⟨its, rv, p', hz⟩ := I1.list hq
    refine call_enumerate_list (p'.isList) fun h' he hit hsz hk => wpAny_pyIter_enum he ?_
    have I2 : Inv X pins σ H1 { s1 with heap := h' } := I1.kept (t' := s1.toks) hk
    refine ⟨s1.heap.objs.size + 1, [s1.heap.objs.size + 1, s1.heap.objs.size], _, _, H1, rfl, I2, turn_enumL a (s1.heap.objs.size + 1) s1.heap.objs.size, ⟨⟨.none, he⟩, hit, Nat.succ_ne_self _⟩, fun b hb => ?_, q⟩
    have e' : b = s1.heap.objs.size + 1 ∨ b = s1.heap.objs.size := by simpa using hb
    have hle : s1.heap.objs.size ≤ b := by
      rcases e' with z | z
      · rw [z]; exact Nat.le_add_right _ _
      · rw [z]; exact Nat.le_refl _
    exact I1.fpOk hle (I1.hok.fresh hle)
/-! ### new tuples, known to their objects -/
theorem _root_.L2.Inv.tnew {X : Cx} {pins : List (Addr × Obj)} {σ : L2.St} {H : Hp} {s : Shared} {vs : List V} {us : List Value} {n : Nat} (I : L2.Inv X pins σ H s) (r : Vals vs us) (z : vs.length ≤ sizeLine) :
    L2.Inv X pins σ (upd H s.heap.objs.size (.frz { cls := .type "tuple", data := .seq us.toArray n } (.tup vs))) { s with heap := s.heap.push { cls := .type "tuple", data := .seq us.toArray n } } := by
  have new : (s.heap.push { cls := .type "tuple", data := .seq us.toArray n }).get? s.heap.objs.size = some { cls := .type "tuple", data := .seq us.toArray n } := Heap.get?_push_size _ rfl
  exact I.laid (t' := s.toks) (fun b u e => Heap.get?_push_of_some _ e) (Nat.le_refl _) (o := .frz _ (.tup vs)) ⟨new, z, us, r, ⟨_, new, rfl, _, rfl⟩⟩
section
variable {X : Cx}
def rCatN (K : PySem.W.Frag) : R2 := fun x y H Q => ∃ a b xs ys, x = .ref a ∧ y = .ref b ∧ SqT K H a xs ∧ SqT K H b ys ∧ xs ≠ [] ∧ xs.length + ys.length ≤ sizeLine ∧
  (ys = [] → Q (.ref a) H) ∧ (ys ≠ [] → ∀ (p : Addr) (o : Obj), H p = none → o.dict = none → Q (.ref p) (upd H p (.frz o (.tup (xs ++ ys)))))
theorem op_catN : OpR X (binaryOp .Add) (rCatN X.K) := by
  intro pins s σ H x y v u Q I rx ry h
  obtain ⟨a, b, xs, ys, rfl, rfl, ha, hb, hx, hz, k1, k2⟩ := h
  cases rx
  cases ry
  obtain ⟨us, ra, ta, _⟩ := I.tuple ha
  obtain ⟨ws, rb, tb, _⟩ := I.tuple hb
  refine HT.cat_tup ta tb (fun e => hx (ra.nil_iff.mp e)) (fun e => ⟨.ref a, H, I, rfl, k1 (rb.nil_iff.mp e)⟩) (fun e => ?_) (by rw [← ra.length, ← rb.length]; exact hz)
  exact ⟨.ref s.heap.objs.size, _, I.tnew (ra.append rb) (by rw [List.length_append]; exact hz), rfl, k2 (fun e' => e (rb.nil_iff.mpr e')) _ _ I.fresh rfl⟩
def rSlN (K : PySem.W.Frag) : V → Option Int → Option Int → Hp → VK → Prop := fun x lo hi H Q => ∃ a xs, x = .ref a ∧ SqT K H a xs ∧
  ¬ (HT.sIx xs.length 0 lo = 0 ∧ HT.sIx xs.length xs.length hi = xs.length) ∧ ∀ (p : Addr) (o : Obj), H p = none → o.dict = none → Q (.ref p) (upd H p (.frz o (.tup (cutV xs lo hi))))
theorem sl_tupN : SlR X (rSlN X.K) := by
  intro pins s σ H x v vl vu lo hi sl Q I rx hs pl pu h
  obtain ⟨a, xs, rfl, hx, hw, k⟩ := h
  cases rx
  obtain ⟨us, ra, ta, hz⟩ := I.tuple hx
  have hl : us.toArray.size = xs.length := by rw [List.size_toArray, ← ra.length]
  refine ⟨"tuple", _, PyProof.Rows.slot_tuple_getitem.lookup, ta.typeIs, HT.getItem_tuple_cut ta hs pl pu (by rw [hl]; exact hw) ?_ (by rw [hl]; exact hz)⟩
  rw [hl]
  exact ⟨.ref s.heap.objs.size, _, I.tnew ((ra.drop (HT.sIx xs.length 0 lo)).take (HT.sIx xs.length xs.length hi - HT.sIx xs.length 0 lo)) (Nat.le_trans (cutV_length xs lo hi) hz), rfl, k _ _ I.fresh rfl⟩
theorem call_tupleN : CallR X (.type "tuple") (fun xs H Q => ∃ p ys, xs = [.ref p] ∧ ((SqL X.K H p ys ∧ ∀ (l : Addr) (o : Obj), H l = none → o.dict = none → Q (.ref l) (upd H l (.frz o (.tup ys)))) ∨ (SqT X.K H p ys ∧ Q (.ref p) H))) := by
  intro pins s σ H xs us Q I r h
  obtain ⟨p, ys, rfl, h⟩ := h
  obtain ⟨u, rfl, rx⟩ := vals1 r
  cases rx
  rcases h with ⟨hq, k⟩ | ⟨hq, k⟩
  · obtain ⟨ws, ra, pl, hz⟩ := I.list hq
    refine call_tuple_list pl.isList (fun h' kp => ?_) (by rw [List.size_toArray, ← ra.length]; exact hz)
    have I1 : L2.Inv X pins σ H { s with heap := h' } := I.kept (t' := s.toks) kp
    exact ⟨.ref h'.objs.size, _, I1.tnew ra hz, rfl, k _ _ I1.fresh rfl⟩
  · obtain ⟨ws, _, pl, _⟩ := I.tuple hq
    exact call_tuple_same pl ⟨.ref p, H, I, rfl, k⟩
end
end RF
end
section
/-! RX: tuple * number. -/
namespace RF
open PySem PySem.Spec PyProof.Rows L2
theorem mul_one (l : Addr) (its : Array Value) (n : Nat) (dd : Option Addr) (sl : Array (Option Value)) (u : Tok) :
    Meets (Builtin.«tuple.__mul__» ⟨[.ref l, .int 1 u], []⟩) (fun _ R s => s.heap.get? l = some { cls := .type "tuple", dict := dd, data := .seq its n, slots := sl } ∧ R (.ok (.ret (.ref l))) s) :=
  .of_wp fun prog w A R s h => by
    obtain ⟨hp, g, d, tk, os⟩ := s
    obtain ⟨hl, h⟩ := h
    have f1 := AutoSeq1.idx_int
    have c1 : (its.isEmpty || (1 : Int) == 1) = true := by simp
    wp_walk using wpAny_loadPart' hl
    exact ⟨_, rfl, h⟩
def rRepN (K : PySem.W.Frag) : R2 := fun x y H Q => ∃ l k xs, x = .ref l ∧ y = .int k ∧ SqT K H l xs ∧ xs ≠ [] ∧ 1 ≤ k ∧ k ≤ 1000 ∧ xs.length ≤ 1000 ∧
  (k = 1 → Q (.ref l) H) ∧ (k ≠ 1 → ∀ (p : Addr) (o : Obj), H p = none → o.dict = none → Q (.ref p) (upd H p (.frz o (.tup (List.replicate k.toNat xs).flatten))))
theorem op_repN {X : Cx} : OpR X (binaryOp .Mult) (rRepN X.K) := by
  intro pins s σ H x y v u Q I rx ry h
  obtain ⟨l, k, xs, rfl, rfl, sq, hne, k1, k2, hx, q1, q2⟩ := h
  cases rx
  obtain ⟨t, rfl⟩ := ry
  obtain ⟨us, r, ⟨⟨c, dd, dt, sl⟩, ho, hc, n, hd⟩, _⟩ := I.tuple sq
  simp only at hc hd
  subst hc hd
  have lu : us.length = xs.length := r.length.symm
  have pos : 0 < us.length := by rw [lu]; exact List.length_pos_iff.mpr hne
  have nemp : us.toArray.isEmpty = false := by
    cases us with
    | nil => cases pos
    | cons a b => rfl
  by_cases e : k = 1
  · subst e
    refine wpAny_binaryOp_repeat_ref (T := "tuple") (U := "int") (by decide) ⟨_, ho, rfl⟩ (fun s' => typeIs_int s' 1 t) noFill_tuple_mul F.fills_int_mul F.slot_int_rmul repeat_tuple F.slot_int_index.lookup
      (call_meets F.slot_int_rmul (typeIs_int s 1 t) F.entry_int_rmul (F.args_int_rmul_2 _ _) (int_rmul_tuple 1 t l us.toArray n dd sl) ⟨ho, rfl, ⟨_, ho, rfl⟩, ?_⟩)
    exact call_meets F.slot_tuple_mul ⟨_, ho, rfl⟩ F.entry_tuple_mul (F.args_tuple_mul_2 _ _) (mul_one l us.toArray n dd sl t) ⟨ho, ⟨.ref l, H, I, rfl, q1 rfl⟩⟩
  · have kx : ((us.toArray.size : Nat) : Int) * k ≤ 1000000 := by
      rw [List.size_toArray, lu]
      have : ((xs.length : Nat) : Int) * k ≤ 1000 * k := Int.mul_le_mul_of_nonneg_right (by omega) (by omega)
      omega
    have fl : (List.replicate k.toNat us).flatten.length ≤ sizeLine := by
      rw [lm_len_rep_flat, lu, sizeLine_eq]
      have : k.toNat * xs.length ≤ 1000 * 1000 := Nat.mul_le_mul (by omega) hx
      omega
    have d0 : (decide (k < -(2 ^ 63)) || decide (k ≥ 2 ^ 63)) = false := by
      simp only [Bool.or_eq_false_iff, decide_eq_false_iff_not]; omega
    have d1 : (us.toArray.isEmpty || k == 1) = false := by
      rw [nemp]; simp [e]
    have d2 : (decide (k ≤ 0) || us.toArray.isEmpty) = false := by
      rw [nemp]; simp; omega
    have d4 : Builtin.Tuple.tupleTooMany (((us.toArray.size : Nat) : Int) * k) = false := by
      unfold Builtin.Tuple.tupleTooMany; rw [sizeLine_eq]; simp only [decide_eq_false_iff_not]; omega
    refine wpAny_binaryOp_repeat_ref (T := "tuple") (U := "int") (by decide) ⟨_, ho, rfl⟩ (fun s' => typeIs_int s' k t) noFill_tuple_mul F.fills_int_mul F.slot_int_rmul repeat_tuple F.slot_int_index.lookup
      (call_meets F.slot_int_rmul (typeIs_int s k t) F.entry_int_rmul (F.args_int_rmul_2 _ _) (int_rmul_tuple k t l us.toArray n dd sl) ⟨ho, rfl, ⟨_, ho, rfl⟩, ?_⟩)
    refine call_meets F.slot_tuple_mul ⟨_, ho, rfl⟩ F.entry_tuple_mul (F.args_tuple_mul_2 _ _) (tuple_mulW l us.toArray n dd sl k t d0 d1 d2 (by omega) d4 (by rw [size_rep, List.size_toArray]; exact fl)) ⟨ho, ?_⟩
    rw [size_rep]
    have hz : (List.replicate k.toNat xs).flatten.length ≤ sizeLine := by rw [lm_len_rep_flat] at fl ⊢; rw [← lu]; exact fl
    exact ⟨.ref s.heap.objs.size, _, I.tnew (r.rep k.toNat) hz, rfl, q2 e _ _ I.fresh rfl⟩
def rRepL : R2 := fun x y H Q => ∃ l k xs, x = .ref l ∧ y = .int k ∧ SqR H l xs ∧ 0 ≤ k ∧ k ≤ 1000 ∧ xs.length ≤ 1000 ∧ ∀ p, H p = none → Q (.ref p) (upd H p (.lst (List.replicate k.toNat xs).flatten))
theorem op_repL {X : Cx} : OpR X (binaryOp .Mult) rRepL := by
  intro pins s σ H x y v u Q I rx ry h
  obtain ⟨l, k, xs, rfl, rfl, hH, h1, h2, hx, q⟩ := h
  cases rx
  obtain ⟨t, rfl⟩ := ry
  obtain ⟨z, its, n, r, e⟩ := hH.ok I.hok
  have hl := r.length
  have hz : xs.length * k.toNat ≤ sizeLine := by
    have : xs.length * k.toNat ≤ 1000 * 1000 := Nat.mul_le_mul hx (by omega)
    rw [sizeLine_eq]; omega
  have hlen : its.toArray.size * k.toNat ≤ sizeLine := by rw [List.size_toArray, ← hl]; exact hz
  have hcap : ¬ its.toArray.size * k.toNat > (2 ^ 63 - 1) / 8 := by
    have : (sizeLine : Nat) ≤ (2 ^ 63 - 1) / 8 := by decide
    omega
  have hfit : ¬ (!Builtin.List.listFitsIndex k) = true := by
    rw [fitsIndex_both (by omega) (by omega)]
    exact Bool.false_ne_true
  have hlong : ¬ Builtin.List.listTooLong (its.toArray.size * k.toNat) = true := by
    rw [notLongL hlen]
    exact Bool.false_ne_true
  have hnew : List.foldl (fun x1 x2 => x1 ++ x2) #[] (List.replicate (if its.toArray.isEmpty = true then 0 else k.toNat) its.toArray) = (List.replicate k.toNat its).flatten.toArray := by
    have f0 : ∀ m : Nat, List.foldl (fun x1 x2 => x1 ++ x2) #[] (List.replicate m its.toArray) = (List.replicate m its).flatten.toArray := fun m => by
      have := foldl_rep its m []
      rw [List.nil_append] at this
      exact this
    rw [f0]
    cases its with
    | nil => simp
    | cons a r' => rw [if_neg (by simp)]
  refine wpAny_binaryOp_repeat_ref (T := "list") (U := "int") (by decide) ⟨_, e, rfl⟩ (fun s' => typeIs_int s' k t) noFill_list_mul F.fills_int_mul F.slot_int_rmul repeat_list F.slot_int_index.lookup
    (call_meets F.slot_int_rmul (typeIs_int s k t) F.entry_int_rmul (F.args_int_rmul_2 _ _) (int___rmul___int_list k t l its.toArray n)
      ⟨e, rfl, ⟨_, e, rfl⟩, call_meets F.slot_list_mul ⟨_, e, rfl⟩ F.entry_list_mul (F.args_list_mul_2 _ _) (AutoListH.list___mul___list_int_3 l its.toArray n k t hfit hcap hlong) ⟨e, ?_⟩⟩)
  rw [hnew]
  exact ⟨.ref _, _, I.lnew (t' := s.toks) (r.rep k.toNat) (by rw [PyProof.Rows.lm_len_rep_flat, Nat.mul_comm]; exact hz), rfl, q _ I.fresh⟩
end RF
end
section
/-! R9: operators by values: what they give, and that they do. -/
namespace RF
open PySem L2

/-! ### plain data -/
mutual
def plain : D → Bool
  | .non => true | .bl _ => true | .int _ => true | .str _ => true
  | .tup xs => plains xs | .lst xs => plains xs
  | _ => false
def plains : List D → Bool
  | [] => true
  | d :: ds => plain d && plains ds
end
mutual
def pd : D → PyData
  | .non => .none | .bl b => .bool b | .int i => .int i | .str s => .str s
  | .tup xs => .tuple (pds xs) | .lst xs => .list (pds xs)
  | _ => .none
def pds : List D → List PyData
  | [] => []
  | d :: ds => pd d :: pds ds
end
mutual
def dep : D → Nat
  | .tup xs => deps xs + 1 | .lst xs => deps xs + 1
  | _ => 0
def deps : List D → Nat
  | [] => 0
  | d :: ds => max (dep d) (deps ds)
end
/-! == -/
mutual
def eqb : D → D → Bool
  | .non, .non => true
  | .bl a, .bl b => a == b
  | .bl a, .int j => (if a then 1 else 0) == j
  | .int i, .bl b => i == (if b then 1 else 0)
  | .int i, .int j => i == j
  | .str x, .str y => x == y
  | .lst xs, .lst ys => eqbs xs ys
  | .tup xs, .tup ys => eqbs xs ys
  | _, _ => false
def eqbs : List D → List D → Bool
  | [], [] => true
  | x :: xs, y :: ys => eqb x y && eqbs xs ys
  | _, _ => false
end
mutual
theorem eqb_eqv : ∀ (a b : D), plain a = true → plain b = true → eqb a b = PyData.eqv (pd a) (pd b)
  | .non, b, _, hb => by cases b <;> simp_all [plain, pd, eqb, PyData.eqv]
  | .bl _, b, _, hb => by cases b <;> simp_all [plain, pd, eqb, PyData.eqv]
  | .int _, b, _, hb => by cases b <;> simp_all [plain, pd, eqb, PyData.eqv]
  | .str _, b, _, hb => by cases b <;> simp_all [plain, pd, eqb, PyData.eqv]
  | .tup xs, b, ha, hb => by
    cases b with
    | tup ys =>
      simp only [plain] at ha hb
      simp only [eqb, pd, PyData.eqv]
      exact eqbs_eqv xs ys ha hb
    | _ => simp_all [plain, pd, eqb, PyData.eqv]
  | .lst xs, b, ha, hb => by
    cases b with
    | lst ys =>
      simp only [plain] at ha hb
      simp only [eqb, pd, PyData.eqv]
      exact eqbs_eqv xs ys ha hb
    | _ => simp_all [plain, pd, eqb, PyData.eqv]
  | .dic _ _, _, ha, _ => by simp [plain] at ha
  | .obj _ _ _, _, ha, _ => by simp [plain] at ha
  | .glo _, _, ha, _ => by simp [plain] at ha
  | .ty _, _, ha, _ => by simp [plain] at ha
  | .set _, _, ha, _ => by simp [plain] at ha
  | .iset _, _, ha, _ => by simp [plain] at ha
theorem eqbs_eqv : ∀ (xs ys : List D), plains xs = true → plains ys = true → eqbs xs ys = PyData.eqvAll (pds xs) (pds ys)
  | [], [], _, _ => by simp [eqbs, pds, PyData.eqvAll]
  | [], _ :: _, _, _ => by simp [eqbs, pds, PyData.eqvAll]
  | _ :: _, [], _, _ => by simp [eqbs, pds, PyData.eqvAll]
  | x :: xs, y :: ys, ha, hb => by
    simp only [plains, Bool.and_eq_true] at ha hb
    simp only [eqbs, pds, PyData.eqvAll]
    rw [eqb_eqv x y ha.1 hb.1, eqbs_eqv xs ys ha.2 hb.2]
end
mutual
theorem dep_pd : ∀ a : D, plain a = true → (pd a).depth = dep a
  | .non, _ => by simp [pd, dep, PyData.depth]
  | .bl _, _ => by simp [pd, dep, PyData.depth]
  | .int _, _ => by simp [pd, dep, PyData.depth]
  | .str _, _ => by simp [pd, dep, PyData.depth]
  | .tup xs, h => by simp only [plain] at h; simp only [pd, dep, PyData.depth]; rw [deps_pd xs h]
  | .lst xs, h => by simp only [plain] at h; simp only [pd, dep, PyData.depth]; rw [deps_pd xs h]
  | .dic _ _, h => by simp [plain] at h
  | .obj _ _ _, h => by simp [plain] at h
  | .glo _, h => by simp [plain] at h
  | .ty _, h => by simp [plain] at h
  | .set _, h => by simp [plain] at h
  | .iset _, h => by simp [plain] at h
theorem deps_pd : ∀ xs : List D, plains xs = true → PyData.depthAll (pds xs) = deps xs
  | [], _ => by simp [pds, deps, PyData.depthAll]
  | x :: xs, h => by
    simp only [plains, Bool.and_eq_true] at h
    simp only [pds, deps, PyData.depthAll]
    rw [dep_pd x h.1, deps_pd xs h.2]
end
section
variable {K : PySem.W.Frag} {mg : Mg} {H F : Hp}
mutual
theorem Rep.dp (s : Sub F H) : ∀ (d : D) (v : V), plain d = true → Rep K mg F d v → Dp K H v (pd d) ∧ (pd d).canLay0 = true
  | .non, v, _, h => by simp only [Rep] at h; subst h; exact ⟨.non, by simp [pd, PyData.canLay0]⟩
  | .bl b, v, _, h => by simp only [Rep] at h; subst h; exact ⟨.bl b, by simp [pd, PyData.canLay0]⟩
  | .int i, v, _, h => by simp only [Rep] at h; subst h; exact ⟨.int i, by simp [pd, PyData.canLay0]⟩
  | .str x, v, _, h => by simp only [Rep] at h; obtain ⟨rfl, _, z⟩ := h; exact ⟨.str x, by simpa [pd, PyData.canLay0] using z⟩
  | .tup xs, v, hp, h => by
    simp only [Rep] at h
    simp only [plain] at hp
    obtain ⟨a, vs, rfl, q, _, r⟩ := h
    obtain ⟨h1, h2⟩ := Reps.dp s xs vs hp r
    exact ⟨by simp only [pd]; exact .tup (s.sqT q.t) h1, by simpa [pd, PyData.canLay0] using h2⟩
  | .lst xs, v, hp, h => by
    simp only [Rep] at h
    simp only [plain] at hp
    obtain ⟨a, vs, rfl, q, _, r⟩ := h
    obtain ⟨h1, h2⟩ := Reps.dp s xs vs hp r
    exact ⟨by simp only [pd]; exact .lst (s.sqR q).l h1, by simpa [pd, PyData.canLay0] using h2⟩
  | .dic _ _, _, h, _ => by simp [plain] at h
  | .obj _ _ _, _, h, _ => by simp [plain] at h
  | .glo _, _, h, _ => by simp [plain] at h
  | .ty _, _, h, _ => by simp [plain] at h
  | .set _, _, h, _ => by simp [plain] at h
  | .iset _, _, h, _ => by simp [plain] at h
theorem Reps.dp (s : Sub F H) : ∀ (ds : List D) (vs : List V), plains ds = true → Reps K mg F ds vs → DpAll K H vs (pds ds) ∧ PyData.canLayAll0 (pds ds) = true
  | [], vs, _, h => by simp only [Reps] at h; subst h; exact ⟨by simp only [pds]; exact .nil, by simp [pds, PyData.canLayAll0]⟩
  | d :: ds, vs, hp, h => by
    simp only [Reps] at h
    simp only [plains, Bool.and_eq_true] at hp
    obtain ⟨v, r, rfl, h1, h2⟩ := h
    obtain ⟨a1, a2⟩ := Rep.dp s d v hp.1 h1
    obtain ⟨b1, b2⟩ := Reps.dp s ds r hp.2 h2
    exact ⟨by simp only [pds]; exact .cons a1 b1, by simp only [pds, PyData.canLayAll0, a2, b2, Bool.and_self]⟩
end
theorem Top.dp (s : Sub F H) {d : D} {v : V} (hp : plain d = true) (h : Top K mg H F d v) : Dp K H v (pd d) ∧ (pd d).canLay0 = true := by
  cases d with
  | lst xs =>
    simp only [Top] at h
    simp only [plain] at hp
    obtain ⟨a, vs, rfl, q, _, r⟩ := h
    obtain ⟨h1, h2⟩ := Reps.dp s xs vs hp r
    exact ⟨by simp only [pd]; exact .lst q.l h1, by simpa [pd, PyData.canLay0] using h2⟩
  | dic _ _ => simp [plain] at hp
  | obj _ _ _ => simp [plain] at hp
  | non => exact Rep.dp (mg := mg) s _ v hp h
  | bl b => exact Rep.dp (mg := mg) s _ v hp h
  | int b => exact Rep.dp (mg := mg) s _ v hp h
  | str b => exact Rep.dp (mg := mg) s _ v hp h
  | tup b => exact Rep.dp (mg := mg) s _ v hp h
  | glo b => simp [plain] at hp
  | ty b => simp [plain] at hp
  | set b => simp [plain] at hp
  | iset b => simp [plain] at hp
end

/-! ### two operands -/
section
variable {g : Bg} {H F : Hp}
theorem Tops.two {a b : D} {vs : List V} (h : Tops g H F [a, b] vs) : ∃ x y, vs = [x, y] ∧ Top g.K g.mg H F a x ∧ Top g.K g.mg H F b y := by
  obtain ⟨x, r, rfl, h1, y, r', rfl, h2, rfl⟩ := h
  exact ⟨x, y, rfl, h1, h2⟩
theorem Tops.one {a : D} {vs : List V} (h : Tops g H F [a] vs) : ∃ x, vs = [x] ∧ Top g.K g.mg H F a x := by
  obtain ⟨x, r, rfl, h1, rfl⟩ := h
  exact ⟨x, rfl, h1⟩
end
/-- an operator as data has it: X op, its meaning f -/
def Op2 (X : Cx) (g : Bg) (h : Value → Value → Sem Value) (f : List D → Option RV) : Prop := ∃ r : R2, OpR X h r ∧ OkL g f (R2L r)

/-! ### ==, != -/
def eqD : List D → Option RV
  | [a, b] => if plain a && plain b && decide (min (dep a) (dep b) ≤ 60) then some (.val (.bl (eqb a b))) else none
  | _ => none
def neD : List D → Option RV
  | [a, b] => if plain a && plain b && decide (min (dep a) (dep b) ≤ 60) then some (.val (.bl (!eqb a b))) else none
  | _ => none
/-! ### in, not in -/
def inS (x z : Str) : Bool := match x.cps.toList with
  | [c] => decide (c ∈ z.cps.toList)
  | _ => !(Builtin.Str.occurrences z x 0 z.length 1).isEmpty
def inB : List D → Option Bool
  | [a, .lst ys] => if plain a && plains ys && decide (min (deps ys) (dep a) ≤ 60) then some (ys.any fun y => eqb y a) else none
  | [a, .tup ys] => if plain a && plains ys && decide (min (deps ys) (dep a) ≤ 60) then some (ys.any fun y => eqb y a) else none
  | [.str x, .str z] => some (inS x z)
  | _ => none
def inD (ds : List D) : Option RV := (inB ds).map fun b => .val (.bl b)
def notInD (ds : List D) : Option RV := (inB ds).map fun b => .val (.bl (!b))
theorem any_pd {a : D} (ha : plain a = true) : ∀ {ys : List D}, plains ys = true → (pds ys).any (fun y => PyData.eqv y (pd a)) = ys.any fun y => eqb y a
  | [], _ => rfl
  | y :: ys, h => by
    simp only [plains, Bool.and_eq_true] at h
    simp only [pds, List.any_cons]
    rw [any_pd ha h.2, eqb_eqv y a h.1 ha]
section
variable {X : Cx} {g : Bg}
theorem op2_eq (hK : X.K = g.K) (hu : X.A.units + 64 < cLine) : Op2 X g (compareOp .Eq) eqD := by
  refine ⟨fun x y H Q => ∃ p q, Dp X.K H x p ∧ Dp X.K H y q ∧ p.canLay0 = true ∧ q.canLay0 = true ∧ min p.depth q.depth ≤ 64 ∧ Q (.bl (PyData.eqv p q)) H, ?_, ?_⟩
  · intro pins s σ H x y v u Q I rx ry h
    obtain ⟨p, q, hp, hq, cp, cq, hd, k⟩ := h
    obtain ⟨as, r1⟩ := Dp.reads I p x v hp rx
    obtain ⟨bs, r2⟩ := Dp.reads I q y u hq ry
    exact PySem.SeqAt.compareEq_reads r1 r2 cp cq (by omega) ⟨.bl _, H, I, rfl, k⟩
  · intro T ρ σ H F ds vs rv Q R t e k
    unfold eqD at e
    split at e
    · rename_i a b
      split at e
      · rename_i hc
        simp only [Bool.and_eq_true, decide_eq_true_eq] at hc
        cases e
        obtain ⟨x, y, rfl, t1, t2⟩ := t.two
        obtain ⟨d1, c1⟩ := Top.dp R.fz.sub hc.1.1 t1
        obtain ⟨d2, c2⟩ := Top.dp R.fz.sub hc.1.2 t2
        refine ⟨x, y, rfl, pd a, pd b, by rw [hK]; exact d1, by rw [hK]; exact d2, c1, c2, by rw [dep_pd a hc.1.1, dep_pd b hc.1.2]; omega, ?_⟩
        rw [← eqb_eqv a b hc.1.1 hc.1.2]
        exact k _ H F (Sub.refl F) ⟨R, rep_bl F⟩
      · cases e
    · cases e
theorem op2_ne (hK : X.K = g.K) (hu : X.A.units + 64 < cLine) : Op2 X g (compareOp .NotEq) neD := by
  refine ⟨fun x y H Q => ∃ p q, Dp X.K H x p ∧ Dp X.K H y q ∧ p.canLay0 = true ∧ q.canLay0 = true ∧ min p.depth q.depth ≤ 64 ∧ Q (.bl (!PyData.eqv p q)) H, ?_, ?_⟩
  · intro pins s σ H x y v u Q I rx ry h
    obtain ⟨p, q, hp, hq, cp, cq, hd, k⟩ := h
    obtain ⟨as, r1⟩ := Dp.reads I p x v hp rx
    obtain ⟨bs, r2⟩ := Dp.reads I q y u hq ry
    exact PySem.SeqAt.compareNe_reads r1 r2 cp cq (by omega) ⟨.bl _, H, I, rfl, k⟩
  · intro T ρ σ H F ds vs rv Q R t e k
    unfold neD at e
    split at e
    · rename_i a b
      split at e
      · rename_i hc
        simp only [Bool.and_eq_true, decide_eq_true_eq] at hc
        cases e
        obtain ⟨x, y, rfl, t1, t2⟩ := t.two
        obtain ⟨d1, c1⟩ := Top.dp R.fz.sub hc.1.1 t1
        obtain ⟨d2, c2⟩ := Top.dp R.fz.sub hc.1.2 t2
        refine ⟨x, y, rfl, pd a, pd b, by rw [hK]; exact d1, by rw [hK]; exact d2, c1, c2, by rw [dep_pd a hc.1.1, dep_pd b hc.1.2]; omega, ?_⟩
        rw [← eqb_eqv a b hc.1.1 hc.1.2]
        exact k _ H F (Sub.refl F) ⟨R, rep_bl F⟩
      · cases e
    · cases e
/-- in by data: a list, a tuple, or texts -/
def rInAny (K : PySem.W.Frag) (neg : Bool) : R2 := fun x y H Q =>
  (∃ p ps, Dp K H x p ∧ (Dp K H y (.list ps) ∨ Dp K H y (.tuple ps)) ∧ p.canLay0 = true ∧ PyData.canLayAll0 ps = true ∧ min (PyData.depthAll ps) p.depth ≤ 64 ∧ Q (.bl (xor neg (ps.any fun z => PyData.eqv z p))) H) ∨
  ∃ i z, x = .str i ∧ y = .str z ∧ Q (.bl (xor neg (inS i z))) H
theorem inS_sign (c : Nat) (z : Str) : inS ⟨#[c]⟩ z = decide (c ∈ z.cps.toList) := rfl
theorem op_inAny (hu : X.A.units + 65 < cLine) : OpR X (compareOp .In) (rInAny X.K false) ∧ OpR X (compareOp .NotIn) (rInAny X.K true) := by
  have sh : ∀ {i z : Str}, (∃ c, i = ⟨#[c]⟩) ∨ inS i z = !(Builtin.Str.occurrences z i 0 z.length 1).isEmpty := fun {i z} => by
    obtain ⟨⟨cs⟩⟩ := i
    cases cs with
    | nil => exact .inr rfl
    | cons c cs =>
      cases cs with
      | nil => exact .inl ⟨c, rfl⟩
      | cons c' cs => exact .inr rfl
  constructor
  · intro pins s σ H x y v u Q I rx ry h
    rcases h with ⟨p, ps, hp, hq, cp, cq, hd, k⟩ | ⟨i, z, rfl, rfl, k⟩
    · simp only [Bool.false_bne, Bool.xor_false, Bool.false_xor] at k
      obtain ⟨as, r1⟩ := Dp.reads I p x v hp rx
      rcases hq with hq | hq
      · obtain ⟨bs, r2⟩ := Dp.reads I _ y u hq ry
        exact PySem.SeqAt.in_list_reads r2 r1 cq cp (by omega) ⟨.bl _, H, I, rfl, k⟩
      · obtain ⟨bs, r2⟩ := Dp.reads I _ y u hq ry
        exact PySem.SeqAt.in_tuple_reads r2 r1 cq cp (by omega) ⟨.bl _, H, I, rfl, k⟩
    · simp only [Bool.false_xor] at k
      rcases sh (i := i) (z := z) with ⟨c, rfl⟩ | e
      · exact op_in_sign pins s σ H _ _ v u Q I rx ry ⟨c, z, rfl, rfl, k⟩
      · rw [e] at k
        exact op_in_str pins s σ H _ _ v u Q I rx ry ⟨i, z, rfl, rfl, k⟩
  · intro pins s σ H x y v u Q I rx ry h
    rcases h with ⟨p, ps, hp, hq, cp, cq, hd, k⟩ | ⟨i, z, rfl, rfl, k⟩
    · simp only [Bool.true_xor] at k
      obtain ⟨as, r1⟩ := Dp.reads I p x v hp rx
      rcases hq with hq | hq
      · obtain ⟨bs, r2⟩ := Dp.reads I _ y u hq ry
        exact PySem.SeqAt.notIn_list_reads r2 r1 cq cp (by omega) ⟨.bl _, H, I, rfl, k⟩
      · obtain ⟨bs, r2⟩ := Dp.reads I _ y u hq ry
        exact PySem.SeqAt.notIn_tuple_reads r2 r1 cq cp (by omega) ⟨.bl _, H, I, rfl, k⟩
    · simp only [Bool.true_xor] at k
      rcases sh (i := i) (z := z) with ⟨c, rfl⟩ | e
      · exact op_notIn_sign pins s σ H _ _ v u Q I rx ry ⟨c, z, rfl, rfl, k⟩
      · rw [e] at k
        exact op_notin_str pins s σ H _ _ v u Q I rx ry ⟨i, z, rfl, rfl, k⟩
theorem ok_in (hK : X.K = g.K) (neg : Bool) : OkL g (fun ds => (inB ds).map fun b => .val (.bl (xor neg b))) (R2L (rInAny X.K neg)) := by
  intro T ρ σ H F ds vs rv Q R t e k
  cases hb : inB ds with
  | none => simp only [hb, Option.map_none] at e; cases e
  | some b =>
    simp only [hb, Option.map_some, Option.some.injEq] at e
    subst e
    unfold inB at hb
    split at hb
    · rename_i a ys
      split at hb
      · rename_i hc
        simp only [Bool.and_eq_true, decide_eq_true_eq] at hc
        cases hb
        obtain ⟨x, y, rfl, t1, t2⟩ := t.two
        obtain ⟨d1, c1⟩ := Top.dp R.fz.sub hc.1.1 t1
        obtain ⟨d2, c2⟩ := Top.dp (d := .lst ys) R.fz.sub (by simpa [plain] using hc.1.2) t2
        simp only [pd] at d2 c2
        refine ⟨x, y, rfl, .inl ⟨pd a, pds ys, by rw [hK]; exact d1, .inl (by rw [hK]; exact d2), c1, by simpa [PyData.canLay0] using c2, by rw [dep_pd a hc.1.1, deps_pd ys hc.1.2]; omega, ?_⟩⟩
        rw [any_pd hc.1.1 hc.1.2]
        exact k _ H F (Sub.refl F) ⟨R, rep_bl F⟩
      · cases hb
    · rename_i a ys
      split at hb
      · rename_i hc
        simp only [Bool.and_eq_true, decide_eq_true_eq] at hc
        cases hb
        obtain ⟨x, y, rfl, t1, t2⟩ := t.two
        obtain ⟨d1, c1⟩ := Top.dp R.fz.sub hc.1.1 t1
        obtain ⟨d2, c2⟩ := Top.dp (d := .tup ys) R.fz.sub (by simpa [plain] using hc.1.2) t2
        simp only [pd] at d2 c2
        refine ⟨x, y, rfl, .inl ⟨pd a, pds ys, by rw [hK]; exact d1, .inr (by rw [hK]; exact d2), c1, by simpa [PyData.canLay0] using c2, by rw [dep_pd a hc.1.1, deps_pd ys hc.1.2]; omega, ?_⟩⟩
        rw [any_pd hc.1.1 hc.1.2]
        exact k _ H F (Sub.refl F) ⟨R, rep_bl F⟩
      · cases hb
    · cases hb
      obtain ⟨x, y, rfl, t1, t2⟩ := t.two
      simp only [Top, Rep] at t1 t2
      obtain ⟨rfl, _⟩ := t1
      obtain ⟨rfl, _⟩ := t2
      exact ⟨_, _, rfl, .inr ⟨_, _, rfl, rfl, k _ H F (Sub.refl F) ⟨R, rep_bl F⟩⟩⟩
    · cases hb
theorem op2_in (hK : X.K = g.K) (hu : X.A.units + 65 < cLine) : Op2 X g (compareOp .In) inD := by
  refine ⟨_, (op_inAny hu).1, ?_⟩
  have h := ok_in (X := X) (g := g) hK false
  simp only [Bool.false_xor] at h
  exact h
theorem op2_notIn (hK : X.K = g.K) (hu : X.A.units + 65 < cLine) : Op2 X g (compareOp .NotIn) notInD := by
  refine ⟨_, (op_inAny hu).2, ?_⟩
  have h := ok_in (X := X) (g := g) hK true
  simp only [Bool.true_xor] at h
  exact h
end

/-! ### order -/
def ltS (x y : Str) : Bool := decide (x.cps.toList < y.cps.toList)
def leS (x y : Str) : Bool := !decide (y.cps.toList < x.cps.toList)
/-- < of plain data that can be put in order -/
def ltQ (a b : D) : Option Bool := if plain a && plain b && PySem.W.alike (pd a) (pd b) && decide (min (dep a) (dep b) ≤ 60) then some (PySem.W.dataLt (pd a) (pd b)) else none
def ltD : List D → Option RV
  | [.int i, .int j] => some (.val (.bl (decide (i < j))))
  | [.str x, .str y] => some (.val (.bl (ltS x y)))
  | [.tup xs, .tup ys] => (ltQ (.tup xs) (.tup ys)).map fun b => .val (.bl b)
  | _ => none
def leD : List D → Option RV
  | [.int i, .int j] => some (.val (.bl (decide (i ≤ j))))
  | [.str x, .str y] => some (.val (.bl (leS x y)))
  | [.tup xs, .tup ys] => (ltQ (.tup ys) (.tup xs)).map fun b => .val (.bl (!b))
  | _ => none
def gtD : List D → Option RV
  | [.int i, .int j] => some (.val (.bl (decide (j < i))))
  | [.str x, .str y] => some (.val (.bl (ltS y x)))
  | [.tup xs, .tup ys] => (ltQ (.tup ys) (.tup xs)).map fun b => .val (.bl b)
  | _ => none
def geD : List D → Option RV
  | [.int i, .int j] => some (.val (.bl (decide (j ≤ i))))
  | [.str x, .str y] => some (.val (.bl (leS y x)))
  | [.tup xs, .tup ys] => (ltQ (.tup xs) (.tup ys)).map fun b => .val (.bl (!b))
  | _ => none
/-- is None, is not None -/
def isNon : D → Bool
  | .non => true
  | _ => false
def isND : List D → Option RV
  | [a, .non] => some (.val (.bl (isNon a)))
  | [.bl a, .bl b] => some (.val (.bl (decide (a = b))))
  | _ => none
def isNotND : List D → Option RV
  | [a, .non] => some (.val (.bl (!isNon a)))
  | [.bl a, .bl b] => some (.val (.bl (!decide (a = b))))
  | _ => none
theorem Rep.nonIff {K : PySem.W.Frag} {mg : Mg} {H F : Hp} {d : D} {v : V} (h : Top K mg H F d v) : decide (v = .non) = isNon d := by
  cases d <;> simp only [Top, Rep] at h
  · subst h; rfl
  · subst h; rfl
  · subst h; rfl
  · obtain ⟨rfl, _⟩ := h; rfl
  · obtain ⟨a, vs, rfl, _⟩ := h; rfl
  · obtain ⟨a, vs, rfl, _⟩ := h; rfl
  · obtain ⟨a, vs, rfl, _⟩ := h; rfl
  · obtain ⟨a, C, dx, fs, rfl, _⟩ := h; rfl
  · obtain ⟨f, rfl, _⟩ := h; rfl
  · subst h; rfl
  · obtain ⟨a, l, rfl, _⟩ := h; rfl
  · obtain ⟨a, rfl, _⟩ := h; rfl
section
variable {X : Cx} {g : Bg}
theorem op2_of {h : Value → Value → Sem Value} {f : List D → Option RV} {r1 r2 : R2} (o1 : OpR X h r1) (o2 : OpR X h r2) (k : OkL g f (R2L fun x y H Q => r1 x y H Q ∨ r2 x y H Q)) : Op2 X g h f := ⟨_, o1.or o2, k⟩
/-- order by data -/
def rOrd (K : PySem.W.Frag) (f : PyData → PyData → Bool) : R2 := fun x y H Q => ∃ p q, Dp K H x p ∧ Dp K H y q ∧ PySem.W.alike p q = true ∧ p ≠ .none ∧ min p.depth q.depth ≤ 64 ∧ Q (.bl (f p q)) H
theorem ord_of {op : CmpOp} {f : PyData → PyData → Bool} (k : ∀ {P : Program} {w : World} {A : Around} {Q : Value → Shared → Prop} {E : Value → Shared → Prop} {s : Shared} {a b : Value} {p q : PyData} {as bs : List Addr}, Reads s.heap a p as → Reads s.heap b q bs → PySem.W.alike p q = true → p ≠ .none → A.units + min p.depth q.depth < cLine → Q (.bool (f p q)) s → wpAny (model P w) A (compareOp op a b) Q E s) (hu : X.A.units + 64 < cLine) : OpR X (compareOp op) (rOrd X.K f) := by
  intro pins s σ H x y v u Q I rx ry h
  obtain ⟨p, q, hp, hq, ha, hn, hd, z⟩ := h
  obtain ⟨as, r1⟩ := Dp.reads I p x v hp rx
  obtain ⟨bs, r2⟩ := Dp.reads I q y u hq ry
  exact k r1 r2 ha hn (by omega) ⟨.bl _, H, I, rfl, z⟩
theorem op2_of3 {h : Value → Value → Sem Value} {f : List D → Option RV} {r1 r2 r3 : R2} (o1 : OpR X h r1) (o2 : OpR X h r2) (o3 : OpR X h r3) (k : OkL g f (R2L fun x y H Q => (r1 x y H Q ∨ r2 x y H Q) ∨ r3 x y H Q)) : Op2 X g h f := ⟨_, (o1.or o2).or o3, k⟩
theorem tup_ord (hK : X.K = g.K) {T : List (Addr × D)} {ρ : Env} {σ : St} {H F : Hp} {xs ys : List D} {vs : List V} {b : Bool} {Q : VK} {f : PyData → PyData → Bool} (R : Rl g T ρ σ H F) (t : Tops g H F [.tup xs, .tup ys] vs) (e : ltQ (.tup xs) (.tup ys) = some b ∨ ltQ (.tup ys) (.tup xs) = some b) (q : Q (.bl (f (pd (.tup xs)) (pd (.tup ys)))) H) :
    ∃ x y, vs = [x, y] ∧ rOrd X.K f x y H Q := by
  obtain ⟨x, y, rfl, t1, t2⟩ := t.two
  have hc : plain (.tup xs) = true ∧ plain (.tup ys) = true ∧ PySem.W.alike (pd (.tup xs)) (pd (.tup ys)) = true ∧ min (dep (.tup xs)) (dep (.tup ys)) ≤ 60 := by
    rcases e with e | e
    · unfold ltQ at e
      split at e
      · rename_i hc
        simp only [Bool.and_eq_true, decide_eq_true_eq] at hc
        exact ⟨hc.1.1.1, hc.1.1.2, hc.1.2, hc.2⟩
      · cases e
    · unfold ltQ at e
      split at e
      · rename_i hc
        simp only [Bool.and_eq_true, decide_eq_true_eq] at hc
        exact ⟨hc.1.1.2, hc.1.1.1, by rw [PySem.W.alike_comm]; exact hc.1.2, by omega⟩
      · cases e
  obtain ⟨h1, h2, h3, h4⟩ := hc
  obtain ⟨d1, c1⟩ := Top.dp R.fz.sub h1 t1
  obtain ⟨d2, c2⟩ := Top.dp R.fz.sub h2 t2
  exact ⟨x, y, rfl, pd (.tup xs), pd (.tup ys), by rw [hK]; exact d1, by rw [hK]; exact d2, h3, by simp [pd], by rw [dep_pd _ h1, dep_pd _ h2]; omega, q⟩
theorem op2_lt (hK : X.K = g.K) (hu : X.A.units + 64 < cLine) : Op2 X g (compareOp .Lt) ltD := op2_of3 op_lt op_lt_str (ord_of (f := PySem.W.dataLt) (fun r1 r2 h1 h2 h3 h4 => PySem.W.lt_data r1 r2 h1 h2 h3 h4) hu) fun T ρ σ H F ds vs rv Q R t e k => by
  unfold ltD at e
  split at e
  · cases e; obtain ⟨x, y, rfl, t1, t2⟩ := t.two
    simp only [Top, Rep] at t1 t2; subst t1 t2
    exact ⟨_, _, rfl, .inl (.inl ⟨_, _, rfl, rfl, k _ H F (Sub.refl F) ⟨R, rep_bl F⟩⟩)⟩
  · cases e; obtain ⟨x, y, rfl, t1, t2⟩ := t.two
    simp only [Top, Rep] at t1 t2; obtain ⟨rfl, _⟩ := t1; obtain ⟨rfl, _⟩ := t2
    exact ⟨_, _, rfl, .inl (.inr ⟨_, _, rfl, rfl, k _ H F (Sub.refl F) ⟨R, rep_bl F⟩⟩)⟩
  · rename_i xs ys
    cases e2 : ltQ (.tup xs) (.tup ys) with
    | none => rw [e2] at e; cases e
    | some b =>
      rw [e2] at e; simp only [Option.map_some, Option.some.injEq] at e; subst e
      have eb : b = PySem.W.dataLt (pd (.tup xs)) (pd (.tup ys)) := by
        have e3 := e2
        unfold ltQ at e3
        split at e3
        · cases e3; rfl
        · cases e3
      subst eb
      obtain ⟨x, y, rfl, q⟩ := tup_ord hK (f := PySem.W.dataLt) R t (.inl e2) (k _ H F (Sub.refl F) ⟨R, rep_bl F⟩)
      exact ⟨x, y, rfl, .inr q⟩
  · cases e
theorem op2_le (hK : X.K = g.K) (hu : X.A.units + 64 < cLine) : Op2 X g (compareOp .LtE) leD := op2_of3 op_le op_le_str (ord_of (f := fun p q => !PySem.W.dataLt q p) (fun r1 r2 h1 h2 h3 h4 => PySem.W.le_data r1 r2 h1 h2 h3 h4) hu) fun T ρ σ H F ds vs rv Q R t e k => by
  unfold leD at e
  split at e
  · cases e; obtain ⟨x, y, rfl, t1, t2⟩ := t.two
    simp only [Top, Rep] at t1 t2; subst t1 t2
    exact ⟨_, _, rfl, .inl (.inl ⟨_, _, rfl, rfl, k _ H F (Sub.refl F) ⟨R, rep_bl F⟩⟩)⟩
  · cases e; obtain ⟨x, y, rfl, t1, t2⟩ := t.two
    simp only [Top, Rep] at t1 t2; obtain ⟨rfl, _⟩ := t1; obtain ⟨rfl, _⟩ := t2
    exact ⟨_, _, rfl, .inl (.inr ⟨_, _, rfl, rfl, k _ H F (Sub.refl F) ⟨R, rep_bl F⟩⟩)⟩
  · rename_i xs ys
    cases e2 : ltQ (.tup ys) (.tup xs) with
    | none => rw [e2] at e; cases e
    | some b =>
      rw [e2] at e; simp only [Option.map_some, Option.some.injEq] at e; subst e
      have eb : b = PySem.W.dataLt (pd (.tup ys)) (pd (.tup xs)) := by
        have e3 := e2
        unfold ltQ at e3
        split at e3
        · cases e3; rfl
        · cases e3
      subst eb
      obtain ⟨x, y, rfl, q⟩ := tup_ord hK (f := fun p q => !PySem.W.dataLt q p) R t (.inr e2) (k _ H F (Sub.refl F) ⟨R, rep_bl F⟩)
      exact ⟨x, y, rfl, .inr q⟩
  · cases e
theorem op2_gt (hK : X.K = g.K) (hu : X.A.units + 64 < cLine) : Op2 X g (compareOp .Gt) gtD := op2_of3 op_gt op_gt_str (ord_of (f := fun p q => PySem.W.dataLt q p) (fun r1 r2 h1 h2 h3 h4 => PySem.W.gt_data r1 r2 h1 h2 h3 h4) hu) fun T ρ σ H F ds vs rv Q R t e k => by
  unfold gtD at e
  split at e
  · cases e; obtain ⟨x, y, rfl, t1, t2⟩ := t.two
    simp only [Top, Rep] at t1 t2; subst t1 t2
    exact ⟨_, _, rfl, .inl (.inl ⟨_, _, rfl, rfl, k _ H F (Sub.refl F) ⟨R, rep_bl F⟩⟩)⟩
  · cases e; obtain ⟨x, y, rfl, t1, t2⟩ := t.two
    simp only [Top, Rep] at t1 t2; obtain ⟨rfl, _⟩ := t1; obtain ⟨rfl, _⟩ := t2
    exact ⟨_, _, rfl, .inl (.inr ⟨_, _, rfl, rfl, k _ H F (Sub.refl F) ⟨R, rep_bl F⟩⟩)⟩
  · rename_i xs ys
    cases e2 : ltQ (.tup ys) (.tup xs) with
    | none => rw [e2] at e; cases e
    | some b =>
      rw [e2] at e; simp only [Option.map_some, Option.some.injEq] at e; subst e
      have eb : b = PySem.W.dataLt (pd (.tup ys)) (pd (.tup xs)) := by
        have e3 := e2
        unfold ltQ at e3
        split at e3
        · cases e3; rfl
        · cases e3
      subst eb
      obtain ⟨x, y, rfl, q⟩ := tup_ord hK (f := fun p q => PySem.W.dataLt q p) R t (.inr e2) (k _ H F (Sub.refl F) ⟨R, rep_bl F⟩)
      exact ⟨x, y, rfl, .inr q⟩
  · cases e
theorem op2_ge (hK : X.K = g.K) (hu : X.A.units + 64 < cLine) : Op2 X g (compareOp .GtE) geD := op2_of3 op_ge op_ge_str (ord_of (f := fun p q => !PySem.W.dataLt p q) (fun r1 r2 h1 h2 h3 h4 => PySem.W.ge_data r1 r2 h1 h2 h3 h4) hu) fun T ρ σ H F ds vs rv Q R t e k => by
  unfold geD at e
  split at e
  · cases e; obtain ⟨x, y, rfl, t1, t2⟩ := t.two
    simp only [Top, Rep] at t1 t2; subst t1 t2
    exact ⟨_, _, rfl, .inl (.inl ⟨_, _, rfl, rfl, k _ H F (Sub.refl F) ⟨R, rep_bl F⟩⟩)⟩
  · cases e; obtain ⟨x, y, rfl, t1, t2⟩ := t.two
    simp only [Top, Rep] at t1 t2; obtain ⟨rfl, _⟩ := t1; obtain ⟨rfl, _⟩ := t2
    exact ⟨_, _, rfl, .inl (.inr ⟨_, _, rfl, rfl, k _ H F (Sub.refl F) ⟨R, rep_bl F⟩⟩)⟩
  · rename_i xs ys
    cases e2 : ltQ (.tup xs) (.tup ys) with
    | none => rw [e2] at e; cases e
    | some b =>
      rw [e2] at e; simp only [Option.map_some, Option.some.injEq] at e; subst e
      have eb : b = PySem.W.dataLt (pd (.tup xs)) (pd (.tup ys)) := by
        have e3 := e2
        unfold ltQ at e3
        split at e3
        · cases e3; rfl
        · cases e3
      subst eb
      obtain ⟨x, y, rfl, q⟩ := tup_ord hK (f := fun p q => !PySem.W.dataLt p q) R t (.inl e2) (k _ H F (Sub.refl F) ⟨R, rep_bl F⟩)
      exact ⟨x, y, rfl, .inr q⟩
  · cases e
theorem op2_isN : Op2 X g (compareOp .Is) isND := op2_of op_isN op_isBl fun T ρ σ H F ds vs rv Q R t e k => by
  unfold isND at e
  split at e
  · cases e; obtain ⟨x, y, rfl, t1, t2⟩ := t.two
    simp only [Top, Rep] at t2; subst t2
    refine ⟨_, _, rfl, .inl ⟨rfl, ?_⟩⟩
    rw [Rep.nonIff t1]
    exact k _ H F (Sub.refl F) ⟨R, rep_bl F⟩
  · cases e; obtain ⟨x, y, rfl, t1, t2⟩ := t.two
    simp only [Top, Rep] at t1 t2; subst t1 t2
    exact ⟨_, _, rfl, .inr ⟨_, _, rfl, rfl, k _ H F (Sub.refl F) ⟨R, rep_bl F⟩⟩⟩
  · cases e
theorem op2_isNotN : Op2 X g (compareOp .IsNot) isNotND := op2_of op_notN op_notBl fun T ρ σ H F ds vs rv Q R t e k => by
  unfold isNotND at e
  split at e
  · cases e; obtain ⟨x, y, rfl, t1, t2⟩ := t.two
    simp only [Top, Rep] at t2; subst t2
    refine ⟨_, _, rfl, .inl ⟨rfl, ?_⟩⟩
    rw [Rep.nonIff t1]
    exact k _ H F (Sub.refl F) ⟨R, rep_bl F⟩
  · cases e; obtain ⟨x, y, rfl, t1, t2⟩ := t.two
    simp only [Top, Rep] at t1 t2; subst t1 t2
    exact ⟨_, _, rfl, .inr ⟨_, _, rfl, rfl, k _ H F (Sub.refl F) ⟨R, rep_bl F⟩⟩⟩
  · cases e

/-! ### arithmetic, + of texts, lists, tuples -/
end
def addD : List D → Option RV
  | [.int i, .int j] => some (.val (.int (i + j)))
  | [.str x, .str y] => if x.length + y.length ≤ cap then some (.val (.str (x ++ y))) else none
  | [.lst xs, .lst ys] => if xs.length + ys.length ≤ cap then some (.fresh (.lst (xs ++ ys))) else none
  | [.tup xs, .tup ys] => if xs.length + ys.length ≤ cap then some (.val (.tup (xs ++ ys))) else none
  | _ => none
def subD : List D → Option RV
  | [.int i, .int j] => some (.val (.int (i - j)))
  | _ => none
def small64i (i : Int) : Bool := decide (-(2 ^ 64) < i) && decide (i < 2 ^ 64)
def wideB (i j : Int) : Bool := decide (i.natAbs.log2 + j.natAbs.log2 < 1000000)
def mulD : List D → Option RV
  | [.int i, .int j] => if small64i i || small64i j || wideB i j then some (.val (.int (i * j))) else none
  | [.lst xs, .int k] => if 0 ≤ k ∧ k ≤ 1000 ∧ xs.length ≤ 1000 then some (.fresh (.lst (List.replicate k.toNat xs).flatten)) else none
  | [.tup xs, .int k] => if xs ≠ [] ∧ 1 ≤ k ∧ k ≤ 1000 ∧ xs.length ≤ 1000 then some (.val (.tup (List.replicate k.toNat xs).flatten)) else none
  | _ => none
def modD : List D → Option RV
  | [.int i, .int j] => if 0 < j then some (.val (.int (i % j))) else none
  | _ => none
def fdivD : List D → Option RV
  | [.int i, .int j] => if 0 < j ∧ j < 1073741824 then some (.val (.int (i / j))) else none
  | _ => none
def powD : List D → Option RV
  | [.int i, .int j] => if 0 ≤ j ∧ j ≤ 1000 ∧ i.natAbs < 2 ^ 64 then some (.val (.int (i ^ j.toNat))) else none
  | _ => none
def negD : List D → Option RV
  | [.int i] => some (.val (.int (-i)))
  | _ => none
theorem strOk_append {x y : Str} (hx : PyData.strOk x = true) (hy : PyData.strOk y = true) : PyData.strOk (x ++ y) = true := by
  unfold PyData.strOk at *
  show (x.cps ++ y.cps).all _ = true
  rw [Array.all_append, hx, hy]; rfl
theorem len_append (x y : Str) : (x ++ y).length = x.length + y.length := by
  show (x.cps ++ y.cps).size = _
  rw [Array.size_append]; rfl
section
variable {X : Cx} {g : Bg}
theorem op2_add (hK : X.K = g.K) : Op2 X g (binaryOp .Add) addD := by
  refine ⟨_, op_add.or (op_add_str.or (op_catS.or (op_catN.or op_catT0))), fun T ρ σ H F ds vs rv Q R t e k => ?_⟩
  unfold addD at e
  split at e
  · cases e; obtain ⟨x, y, rfl, t1, t2⟩ := t.two
    simp only [Top, Rep] at t1 t2; subst t1 t2
    exact ⟨_, _, rfl, .inl ⟨_, _, rfl, rfl, k _ H F (Sub.refl F) ⟨R, rep_int F⟩⟩⟩
  · split at e
    · rename_i a b hz
      cases e; obtain ⟨x, y, rfl, t1, t2⟩ := t.two
      simp only [Top, Rep] at t1 t2; obtain ⟨rfl, _, o1⟩ := t1; obtain ⟨rfl, _, o2⟩ := t2
      have hz' := Nat.le_trans hz cap_line
      refine ⟨_, _, rfl, .inr (.inl ⟨_, _, rfl, rfl, hz', k _ H F (Sub.refl F) ⟨R, ?_⟩⟩)⟩
      simp only [Rep]
      exact ⟨trivial, by rw [len_append]; exact hz', strOk_append o1 o2⟩
    · cases e
  · split at e
    · rename_i xs ys hz
      cases e; obtain ⟨x, y, rfl, t1, t2⟩ := t.two
      simp only [Top] at t1 t2
      obtain ⟨a, us, rfl, q1, z1, r1⟩ := t1
      obtain ⟨b, ws, rfl, q2, z2, r2⟩ := t2
      have hz' : us.length + ws.length ≤ sizeLine := by rw [← r1.len, ← r2.len]; exact Nat.le_trans hz cap_line
      refine ⟨_, _, rfl, .inr (.inr (.inl ⟨a, b, us, ws, rfl, rfl, q1.l, q2.l, hz', fun p hp => k _ _ F (Sub.refl F) ?_⟩))⟩
      exact Res.newLst R (r1.append r2) (by rw [List.length_append]; exact hz') hp
    · cases e
  · split at e
    · rename_i xs ys hz
      cases e; obtain ⟨x, y, rfl, t1, t2⟩ := t.two
      simp only [Top, Rep] at t1 t2
      obtain ⟨a, us, rfl, q1, z1, r1⟩ := t1
      obtain ⟨b, ws, rfl, q2, z2, r2⟩ := t2
      have hz' : us.length + ws.length ≤ sizeLine := by rw [← r1.len, ← r2.len]; exact Nat.le_trans hz cap_line
      have q1' : SqT X.K H a us := by rw [hK]; exact R.fz.sub.sqT q1.t
      have q2' : SqT X.K H b ws := by rw [hK]; exact R.fz.sub.sqT q2.t
      refine ⟨_, _, rfl, .inr (.inr (.inr ?_))⟩
      by_cases hx : us = []
      · subst hx
        have : xs = [] := List.length_eq_zero_iff.mp (by rw [r1.len]; rfl)
        subst this
        exact .inr ⟨a, b, ws, rfl, rfl, q1', q2', k _ H F (Sub.refl F) ⟨R, by simp only [List.nil_append, Rep]; exact ⟨b, ws, rfl, q2, z2, r2⟩⟩⟩
      · refine .inl ⟨a, b, us, ws, rfl, rfl, q1', q2', hx, hz', fun hy => ?_, fun _ p o hp hd => ?_⟩
        · subst hy
          have : ys = [] := List.length_eq_zero_iff.mp (by rw [r2.len]; rfl)
          subst this
          exact k _ H F (Sub.refl F) ⟨R, by simp only [List.append_nil, Rep]; exact ⟨a, us, rfl, q1, z1, r1⟩⟩
        · obtain ⟨s, q⟩ := Res.newTup R (r1.append r2) (by rw [List.length_append]; exact hz') hp hd
          exact k _ _ _ s q
    · cases e
  · cases e
theorem op2_sub : Op2 X g (binaryOp .Sub) subD := ⟨_, op_sub, fun T ρ σ H F ds vs rv Q R t e k => by
  unfold subD at e
  split at e
  · cases e; obtain ⟨x, y, rfl, t1, t2⟩ := t.two
    simp only [Top, Rep] at t1 t2; subst t1 t2
    exact ⟨_, _, rfl, _, _, rfl, rfl, k _ H F (Sub.refl F) ⟨R, rep_int F⟩⟩
  · cases e⟩
theorem Reps.rep {K : PySem.W.Frag} {mg : Mg} {F : Hp} {ds : List D} {vs : List V} (h : Reps K mg F ds vs) : ∀ n, Reps K mg F (List.replicate n ds).flatten (List.replicate n vs).flatten
  | 0 => Reps.nil
  | n + 1 => by
    rw [List.replicate_succ, List.replicate_succ, List.flatten_cons, List.flatten_cons]
    exact h.append (Reps.rep h n)
theorem op2_mul (hK : X.K = g.K) : Op2 X g (binaryOp .Mult) mulD := ⟨_, ((op_mul.or op_mulW).or op_repN).or op_repL, fun T ρ σ H F ds vs rv Q R t e k => by
  unfold mulD at e
  split at e
  · split at e
    · rename_i hc
      cases e; obtain ⟨x, y, rfl, t1, t2⟩ := t.two
      simp only [Top, Rep] at t1 t2; subst t1 t2
      simp only [small64i, wideB, Bool.or_eq_true, Bool.and_eq_true, decide_eq_true_eq] at hc
      rcases hc with hc | hc
      · exact ⟨_, _, rfl, .inl (.inl (.inl ⟨_, _, rfl, rfl, hc, k _ H F (Sub.refl F) ⟨R, rep_int F⟩⟩))⟩
      · exact ⟨_, _, rfl, .inl (.inl (.inr ⟨_, _, rfl, rfl, hc, k _ H F (Sub.refl F) ⟨R, rep_int F⟩⟩))⟩
    · cases e
  · split at e
    · rename_i xs n hc
      cases e; obtain ⟨x, y, rfl, t1, t2⟩ := t.two
      simp only [Top, Rep] at t1 t2; subst t2
      obtain ⟨a, us, rfl, sq, z, r⟩ := t1
      refine ⟨_, _, rfl, .inr ⟨a, n, us, rfl, rfl, sq, hc.1, hc.2.1, by rw [← r.len]; exact hc.2.2, fun p hp => ?_⟩⟩
      exact k _ _ F (Sub.refl F) (Res.newLst R (r.rep n.toNat) (by
          rw [PyProof.Rows.lm_len_rep_flat, sizeLine_eq, ← r.len]
          have : n.toNat * xs.length ≤ 1000 * 1000 := Nat.mul_le_mul (by omega) hc.2.2
          omega) hp)
    · cases e
  · split at e
    · rename_i xs n hc
      cases e; obtain ⟨x, y, rfl, t1, t2⟩ := t.two
      simp only [Top, Rep] at t1 t2; subst t2
      obtain ⟨a, us, rfl, sq, z, r⟩ := t1
      have hne : us ≠ [] := fun e => hc.1 (List.length_eq_zero_iff.mp (by rw [r.len, e]; rfl))
      refine ⟨_, _, rfl, .inl (.inr ⟨a, n, us, rfl, rfl, by rw [hK]; exact R.fz.sub.sqT sq.t, hne, hc.2.1, hc.2.2.1, by rw [← r.len]; exact hc.2.2.2, fun e => ?_, fun _ p o hp hd => ?_⟩)⟩
      · subst e
        have : (List.replicate (1 : Int).toNat xs).flatten = xs := by simp
        refine k _ H F (Sub.refl F) ⟨R, ?_⟩
        rw [this]; simp only [Rep]; exact ⟨a, us, rfl, sq, z, r⟩
      · obtain ⟨s, q⟩ := Res.newTup R (r.rep n.toNat) (by
          rw [PyProof.Rows.lm_len_rep_flat, sizeLine_eq, ← r.len]
          have : n.toNat * xs.length ≤ 1000 * 1000 := Nat.mul_le_mul (by omega) hc.2.2.2
          omega) hp hd
        exact k _ _ _ s q
    · cases e
  · cases e⟩
theorem op2_mod : Op2 X g (binaryOp .Mod) modD := ⟨_, op_mod, fun T ρ σ H F ds vs rv Q R t e k => by
  unfold modD at e
  split at e
  · split at e
    · rename_i hc
      cases e; obtain ⟨x, y, rfl, t1, t2⟩ := t.two
      simp only [Top, Rep] at t1 t2; subst t1 t2
      exact ⟨_, _, rfl, _, _, rfl, rfl, hc, k _ H F (Sub.refl F) ⟨R, rep_int F⟩⟩
    · cases e
  · cases e⟩
theorem op2_fdiv : Op2 X g (binaryOp .FloorDiv) fdivD := ⟨_, op_fdiv, fun T ρ σ H F ds vs rv Q R t e k => by
  unfold fdivD at e
  split at e
  · split at e
    · rename_i hc
      cases e; obtain ⟨x, y, rfl, t1, t2⟩ := t.two
      simp only [Top, Rep] at t1 t2; subst t1 t2
      exact ⟨_, _, rfl, _, _, rfl, rfl, hc, k _ H F (Sub.refl F) ⟨R, rep_int F⟩⟩
    · cases e
  · cases e⟩
theorem op2_pow : Op2 X g (binaryOp .Pow) powD := ⟨_, op_pow, fun T ρ σ H F ds vs rv Q R t e k => by
  unfold powD at e
  split at e
  · split at e
    · rename_i hc
      cases e; obtain ⟨x, y, rfl, t1, t2⟩ := t.two
      simp only [Top, Rep] at t1 t2; subst t1 t2
      exact ⟨_, _, rfl, _, _, rfl, rfl, ⟨hc.1, Int.le_trans hc.2.1 (by decide), hc.2.2⟩, k _ H F (Sub.refl F) ⟨R, rep_int F⟩⟩
    · cases e
  · cases e⟩
theorem ok_neg : OkL g negD (R1L (rU fun i => .int (-i))) := fun T ρ σ H F ds vs rv Q R t e k => by
  unfold negD at e
  split at e
  · cases e; obtain ⟨x, rfl, t1⟩ := t.one
    simp only [Top, Rep] at t1; subst t1
    exact ⟨_, rfl, _, rfl, k _ H F (Sub.refl F) ⟨R, rep_int F⟩⟩
  · cases e
end
end RF
end
section
/-! RK: keys of dicts; what is read of a dict, what is put in. -/
namespace RF
open PySem L2
def keyD : D → Option Key
  | .int i => some (.inl i)
  | .str s => some (.inr s)
  | _ => none
def keysD : List D → Option (List Key)
  | [] => some []
  | d :: ds => match keyD d with
    | some k => (keysD ds).map (k :: ·)
    | none => none
def keyOf : Key → D
  | .inl i => .int i
  | .inr s => .str s
/-- a pair put in -/
def putV1 (k : Key) (v : D) : List Key → List D → List D
  | k' :: ks, v' :: vs => (if k' = k then v else v') :: putV1 k v ks vs
  | _, _ => []
def hasK (k : Key) (ks : List Key) : Bool := ks.any fun k' => decide (k' = k)
theorem hasK_iff {k : Key} {ks : List Key} : hasK k ks = true ↔ k ∈ ks := by
  unfold hasK
  rw [List.any_eq_true]
  exact ⟨fun ⟨x, hx, e⟩ => by rw [← of_decide_eq_true e]; exact hx, fun h => ⟨k, h, decide_eq_true rfl⟩⟩
def putP (k : Key) (v : D) (ks : List Key) (vs : List D) : List Key × List D := if hasK k ks = true then (ks, putV1 k v ks vs) else (ks ++ [k], vs ++ [v])
def putDic : D → D → D → Option D
  | .dic ks vs, kd, v => match keysD ks with
    | some l => match keyD kd with
      | some k => if l.length < cap then some (.dic ((putP k v l vs).1.map keyOf) (putP k v l vs).2) else none
      | none => none
    | none => none
  | _, _, _ => none
section
variable {K : PySem.W.Frag} {mg : Mg} {F : Hp}
theorem keys_reps : ∀ {ks : List D} {l : List Key} {kvs : List (Key × V)}, keysD ks = some l → Reps K mg F ks (kvs.map fun p => kV p.1) → kvs.map (·.1) = l
  | [], l, kvs, e, r => by
    simp only [keysD, Option.some.injEq] at e
    subst e
    cases kvs with
    | nil => rfl
    | cons p kvs => simp [Reps] at r
  | d :: ds, l, kvs, e, r => by
    cases kvs with
    | nil => simp [Reps] at r
    | cons p kvs =>
      simp only [List.map_cons, Reps] at r
      obtain ⟨v, r', e', h1, h2⟩ := r
      cases e'
      obtain ⟨pk, pv⟩ := p
      cases d <;> simp only [keysD, keyD] at e <;> try (cases e)
      · cases e2 : keysD ds with
        | none => rw [e2] at e; cases e
        | some l' =>
          rw [e2] at e; cases e
          simp only [Rep] at h1
          cases pk <;> simp only [kV] at h1 <;> cases h1
          simp only [List.map_cons, keys_reps e2 h2]
      · cases e2 : keysD ds with
        | none => rw [e2] at e; cases e
        | some l' =>
          rw [e2] at e; cases e
          simp only [Rep] at h1
          cases pk <;> simp only [kV] at h1 <;> cases h1.1
          simp only [List.map_cons, keys_reps e2 h2]
theorem key_rep {d : D} {v : V} {k : Key} (e : keyD d = some k) (r : Rep K mg F d v) : v = kV k ∧ d = keyOf k := by
  cases d <;> simp only [keyD] at e <;> cases e
  · simp only [Rep] at r; exact ⟨r, rfl⟩
  · simp only [Rep] at r; exact ⟨r.1, rfl⟩
theorem keysD_of : ∀ {ks : List D} {l : List Key}, keysD ks = some l → ks = l.map keyOf
  | [], l, e => by simp only [keysD, Option.some.injEq] at e; subst e; rfl
  | d :: ds, l, e => by
    simp only [keysD] at e
    cases e1 : keyD d with
    | none => rw [e1] at e; cases e
    | some k =>
      cases e2 : keysD ds with
      | none => rw [e1, e2] at e; cases e
      | some l' =>
        rw [e1, e2] at e; cases e
        have hd : d = keyOf k := by cases d <;> simp only [keyD] at e1 <;> cases e1 <;> rfl
        rw [List.map_cons, ← keysD_of e2, hd]
theorem putV1_reps {k : Key} {d : D} {v : V} (r : Rep K mg F d v) : ∀ {kvs : List (Key × V)} {ds : List D}, Reps K mg F ds (kvs.map (·.2)) →
    Reps K mg F (putV1 k d (kvs.map (·.1)) ds) ((kvs.map fun kv => if kv.1 = k then (kv.1, v) else kv).map (·.2))
  | [], ds, h => by cases ds with
    | nil => simp [putV1, Reps]
    | cons x xs => simp [Reps] at h
  | p :: kvs, ds, h => by cases ds with
    | nil => simp [Reps] at h
    | cons x xs =>
      simp only [List.map_cons, Reps] at h
      obtain ⟨v', r', e', h1, h2⟩ := h
      cases e'
      simp only [List.map_cons, putV1]
      refine Reps.cons ?_ (putV1_reps r h2)
      split
      · exact r
      · exact h1
theorem At.put {H : Hp} {a : Addr} {ks ds : List D} {l : List Key} {k : Key} {d kd : D} {v : V} (rk : Rep K mg F kd (kV k)) (ekd : kd = keyOf k) (r : Rep K mg F d v) (h : At K mg H F (.dic ks ds) a) (e : keysD ks = some l) :
    ∃ kvs, H a = some (.dK kvs) ∧ kvs.length = l.length ∧ ∀ H', At K mg (upd H' a (.dK (putK kvs k v))) F (.dic ((putP k d l ds).1.map keyOf) (putP k d l ds).2) a := by
  simp only [At] at h
  obtain ⟨kvs, eH, r1, r2⟩ := h
  have el := keys_reps e r1
  have eks := keysD_of e
  refine ⟨kvs, eH, by rw [← el, List.length_map], fun H' => ?_⟩
  simp only [At]
  refine ⟨_, upd_same, ?_, ?_⟩
  · by_cases hk : hasK k l = true
    · have hany : (kvs.any fun kv => decide (kv.1 = k)) = true := by
        have hk := hasK_iff.mp hk
        rw [← el] at hk
        obtain ⟨p, hp, e'⟩ := List.mem_map.mp hk
        exact List.any_eq_true.mpr ⟨p, hp, by simp [e']⟩
      simp only [putP, if_pos hk, putK, if_pos hany]
      rw [← eks, List.map_map]
      have : (kvs.map ((fun p => kV p.1) ∘ fun kv => if kv.1 = k then (kv.1, v) else kv)) = kvs.map fun p => kV p.1 := by
        refine List.map_congr_left fun p _ => ?_
        simp only [Function.comp]
        split <;> rfl
      rw [this]; exact r1
    · have hany : ¬ (kvs.any fun kv => decide (kv.1 = k)) = true := fun z => by
        obtain ⟨p, hp, e'⟩ := List.any_eq_true.mp z
        exact hk (hasK_iff.mpr (by rw [← el]; exact List.mem_map.mpr ⟨p, hp, by simpa using e'⟩))
      simp only [putP, if_neg hk, putK, if_neg hany, List.map_append]
      rw [← eks]
      refine r1.append ?_
      simp only [List.map_cons, List.map_nil]
      exact Reps.cons (by rw [← ekd]; exact rk) Reps.nil
  · by_cases hk : hasK k l = true
    · have hany : (kvs.any fun kv => decide (kv.1 = k)) = true := by
        have hk := hasK_iff.mp hk
        rw [← el] at hk
        obtain ⟨p, hp, e'⟩ := List.mem_map.mp hk
        exact List.any_eq_true.mpr ⟨p, hp, by simp [e']⟩
      simp only [putP, if_pos hk, putK, if_pos hany]
      rw [← el]
      exact putV1_reps r r2
    · have hany : ¬ (kvs.any fun kv => decide (kv.1 = k)) = true := fun z => by
        obtain ⟨p, hp, e'⟩ := List.any_eq_true.mp z
        exact hk (hasK_iff.mpr (by rw [← el]; exact List.mem_map.mpr ⟨p, hp, by simpa using e'⟩))
      simp only [putP, if_neg hk, putK, if_neg hany, List.map_append]
      exact r2.append (Reps.cons r Reps.nil)
theorem rep_key {kd : D} {k : Key} (r : Rep K mg F kd (kV k)) : keyD kd = some k := by
  cases k with
  | inl i => cases kd <;> simp only [Rep, kV] at r <;> simp_all [keyD]
  | inr s => cases kd <;> simp only [Rep, kV] at r <;> simp_all [keyD]
def getDic : List D → List D → Key → Option D
  | kd :: ks, v :: vs, k => if keyD kd = some k then some v else getDic ks vs k
  | _, _, _ => none
theorem getDic_ok {k : Key} {d : D} : ∀ {ks ds : List D} {kvs : List (Key × V)}, Reps K mg F ks (kvs.map fun p => kV p.1) → Reps K mg F ds (kvs.map (·.2)) → getDic ks ds k = some d → ∃ v, valV kvs k = some v ∧ Rep K mg F d v
  | [], _, _, _, _, e => by simp [getDic] at e
  | _ :: _, [], _, _, _, e => by simp [getDic] at e
  | kd :: ks, x :: ds, [], r1, _, _ => by simp [Reps] at r1
  | kd :: ks, x :: ds, p :: kvs, r1, r2, e => by
    simp only [List.map_cons, Reps] at r1 r2
    obtain ⟨v1, w1, e1, h1, t1⟩ := r1
    obtain ⟨v2, w2, e2, h2, t2⟩ := r2
    cases e1; cases e2
    have hk := rep_key h1
    unfold getDic at e
    rw [hk] at e
    by_cases hp : p.1 = k
    · rw [if_pos (by rw [hp])] at e
      cases e
      exact ⟨p.2, valV_pos hp, h2⟩
    · rw [if_neg (fun z => hp (Option.some.inj z))] at e
      rw [valV_neg hp]
      exact getDic_ok t1 t2 e
end
section
variable {X : Cx}
def rIxDc : R2 := fun x y H Q => ∃ a kvs k v, x = .ref a ∧ y = kV k ∧ H a = some (.dK kvs) ∧ valV kvs k = some v ∧ Q v H
theorem ix_dict (hu : X.A.units + 1 < cLine) : IxR X rIxDc := by
  intro value slice pins s σ H x y v u Q I rx ry h hs
  obtain ⟨a, kvs, k, w, rfl, rfl, hH, hv, q⟩ := h
  cases rx
  have g : DGet H a (kV k) (some w) := .inl ⟨kvs, k, .inl hH, rfl, hv.symm⟩
  exact PyProof.Rows.tail_any (ops := [.ref a, u]) (dict_typeIs I g) PySem.F.slot_dict_getitem.lookup (d_getItem hu I g ry fun w' s3 I3 rw' => ⟨w, H, I3, rw', q⟩) hs
end
end RF
end
section
/-! R10: subscripts, built-in functions, methods of built-in types, what is walked. -/
namespace RF
open PySem L2

/-! ### subscripts -/
def ixD : List D → Option RV
  | [.lst xs, .int i] => (atI xs i).map .val
  | [.tup xs, .int i] => (atI xs i).map .val
  | [.str z, .int i] => (atI z.cps.toList i).map fun c => .val (.str ⟨#[c]⟩)
  | [.dic ks vs, kd] => (keyD kd).bind fun k => (getDic ks vs k).map .val
  | _ => none
def cutD {α : Type} (xs : List α) (lo hi : Option Int) : List α := (xs.drop (HT.sIx xs.length 0 lo)).take (HT.sIx xs.length xs.length hi - HT.sIx xs.length 0 lo)
def slD (lo hi : Option Int) : D → Option RV
  | .lst xs => some (.fresh (.lst (cutD xs lo hi)))
  | .tup xs => some (.val (.tup (cutD xs lo hi)))
  | .str z => some (.val (.str (cutS z lo hi)))
  | _ => none
def sl00 : List D → Option RV | [d] => slD none none d | _ => none
def sl10 : List D → Option RV | [d, .int i] => slD (some i) none d | _ => none
def sl01 : List D → Option RV | [d, .int j] => slD none (some j) d | _ => none
def sl11 : List D → Option RV | [d, .int i, .int j] => slD (some i) (some j) d | _ => none
theorem strOk_of {z : Str} (h : PyData.strOk z = true) {c : Nat} (hc : c ∈ z.cps.toList) : c < 0x110000 := by
  unfold PyData.strOk at h
  rw [← Array.all_toList, List.all_eq_true] at h
  exact of_decide_eq_true (h c hc)
theorem strOk_mk {l : List Nat} (h : ∀ c ∈ l, c < 0x110000) : PyData.strOk ⟨l.toArray⟩ = true := by
  unfold PyData.strOk
  rw [← Array.all_toList, List.all_eq_true]
  intro c hc
  exact decide_eq_true (h c (by simpa using hc))
section
variable {K : PySem.W.Frag} {mg : Mg} {F : Hp}
theorem Reps.atI {ds : List D} {vs : List V} {i : Int} {d : D} (r : Reps K mg F ds vs) (e : L2.atI ds i = some d) : ∃ v, L2.atI vs i = some v ∧ Rep K mg F d v := by
  unfold L2.atI at e ⊢
  rw [← r.len]
  cases q : ixN ds.length i with
  | none => rw [q] at e; cases e
  | some j =>
    rw [q] at e
    simp only [Option.bind_some] at e ⊢
    exact r.get e
theorem Reps.cut {ds : List D} {vs : List V} (r : Reps K mg F ds vs) (lo hi : Option Int) : Reps K mg F (cutD ds lo hi) (cutV vs lo hi) := by
  unfold cutD cutV
  rw [r.len]
  exact (r.drop _).take _
theorem cutS_ok {z : Str} (lo hi : Option Int) (h : PyData.strOk z = true) (hz : z.length ≤ sizeLine) : (cutS z lo hi).length ≤ sizeLine ∧ PyData.strOk (cutS z lo hi) = true := by
  refine ⟨?_, strOk_mk fun c hc => strOk_of h (List.mem_of_mem_drop (List.mem_of_mem_take hc))⟩
  show (List.toArray _).size ≤ _
  rw [List.size_toArray, List.length_take, List.length_drop, Array.length_toList]
  show min _ (z.length - _) ≤ _
  omega
end
section
variable {X : Cx} {g : Bg} {W : WX} {a b e : Expr} {ma mb m : ME} {pos p2 : Pos}
theorem ok_ix (hK : X.K = g.K) : OkL g ixD (R2L fun x y H Q => rIx X.K x y H Q ∨ rIxDc x y H Q) := fun T ρ σ H F ds vs rv Q R t e k => by
  unfold ixD at e
  split at e
  · rename_i xs i
    cases q : L2.atI xs i with
    | none => rw [q] at e; cases e
    | some d =>
      rw [q] at e; cases e
      obtain ⟨x, y, rfl, t1, t2⟩ := t.two
      simp only [Top, Rep] at t1 t2; subst t2
      obtain ⟨c, us, rfl, sq, z, r⟩ := t1
      obtain ⟨v, e1, rv⟩ := r.atI q
      exact ⟨_, _, rfl, .inl (.inl ⟨c, us, i, v, rfl, rfl, sq.l, e1, k _ H F (Sub.refl F) ⟨R, rv⟩⟩)⟩
  · rename_i xs i
    cases q : L2.atI xs i with
    | none => rw [q] at e; cases e
    | some d =>
      rw [q] at e; cases e
      obtain ⟨x, y, rfl, t1, t2⟩ := t.two
      simp only [Top, Rep] at t1 t2; subst t2
      obtain ⟨c, us, rfl, sq, z, r⟩ := t1
      obtain ⟨v, e1, rv⟩ := r.atI q
      exact ⟨_, _, rfl, .inl (.inr (.inl ⟨c, us, i, v, rfl, rfl, by rw [hK]; exact R.fz.sub.sqT sq.t, e1, k _ H F (Sub.refl F) ⟨R, rv⟩⟩))⟩
  · rename_i z i
    cases q : L2.atI z.cps.toList i with
    | none => rw [q] at e; cases e
    | some c =>
      rw [q] at e; cases e
      obtain ⟨x, y, rfl, t1, t2⟩ := t.two
      simp only [Top, Rep] at t1 t2; subst t2
      obtain ⟨rfl, hz, ok⟩ := t1
      obtain ⟨j, _, hj, _⟩ := atI_get q
      refine ⟨_, _, rfl, .inl (.inr (.inr ⟨z, i, c, rfl, rfl, hz, q, k _ H F (Sub.refl F) ⟨R, ?_⟩⟩))⟩
      simp only [Rep]
      exact ⟨trivial, by show 1 ≤ sizeLine; decide, strOk_mk (l := [c]) fun c' hc => by
        simp only [List.mem_singleton] at hc; subst hc; exact strOk_of ok (List.mem_of_getElem? hj)⟩
  · rename_i ks ds kd
    cases ek : keyD kd with
    | none => rw [ek] at e; cases e
    | some kk =>
      rw [ek] at e
      simp only [Option.bind_some] at e
      cases eg : getDic ks ds kk with
      | none => rw [eg] at e; cases e
      | some d =>
        rw [eg] at e; cases e
        obtain ⟨x, y, rfl, t1, t2⟩ := t.two
        simp only [Top] at t1
        obtain ⟨a, kvs, rfl, hH, r1, r2⟩ := t1
        obtain ⟨v, hv, rv⟩ := getDic_ok r1 r2 eg
        have hy : y = kV kk := by
          cases kd <;> simp only [keyD] at ek <;> cases ek
          · simp only [Top, Rep] at t2; exact t2
          · simp only [Top, Rep] at t2; exact t2.1
        exact ⟨_, _, rfl, .inr ⟨a, kvs, kk, v, rfl, hy, hH, hv, k _ H F (Sub.refl F) ⟨R, rv⟩⟩⟩
  · cases e
theorem SE.ix (hK : X.K = g.K) (hu : X.A.units + 1 < cLine) (ha : SE X g W a ma) (hb : SE X g W b mb) (hp : plainIx b = true) : SE X g W (.Subscript a b pos) (eOp ixD [ma, mb]) :=
  PEimp (pe_ix (ix_seq.or (ix_dict hu)) ha hb (ix_ok hp)) fun σ H Q q => rdOp2 (ok_ix hK) q
/-- slices, of anything -/
def rSlW (K : PySem.W.Frag) : V → Option Int → Option Int → Hp → VK → Prop := fun x lo hi H Q => ∃ a xs, x = .ref a ∧ SqT K H a xs ∧ (HT.sIx xs.length 0 lo = 0 ∧ HT.sIx xs.length xs.length hi = xs.length) ∧ Q (.ref a) H
theorem sl_tupW : SlR X (rSlW X.K) := by
  intro pins s σ H x v vl vu lo hi sl Q I rx hs pl pu h
  obtain ⟨a, xs, rfl, hx, hw, q⟩ := h
  cases rx
  obtain ⟨its, r, ht, hz⟩ := I.tuple hx
  have hlen : its.toArray.size = xs.length := by rw [List.size_toArray]; exact r.length.symm
  refine ⟨"tuple", _, PyProof.Rows.slot_tuple_getitem.lookup, ht.typeIs, ?_⟩
  exact getItem_tuple_whole ht hs pl pu (by rw [hlen]; exact hw) ⟨.ref a, H, I, rfl, q⟩
def rSlAny (K : PySem.W.Frag) : V → Option Int → Option Int → Hp → VK → Prop := fun x lo hi H Q => rSlL K x lo hi H Q ∨ rSlN K x lo hi H Q ∨ rSlW K x lo hi H Q ∨ rSlS x lo hi H Q
theorem sl_any : SlR X (rSlAny X.K) := sl_list.or (sl_tupN.or (sl_tupW.or sl_str))
theorem sl_ok (hK : X.K = g.K) {T : List (Addr × D)} {ρ : Env} {σ : St} {H F : Hp} {d : D} {x : V} {lo hi : Option Int} {rv : RV} {Q : VK} (R : Rl g T ρ σ H F) (t : Top g.K g.mg H F d x) (e : slD lo hi d = some rv)
    (k : ∀ v H' F', Sub F F' → Res g T rv.ov v ρ σ H' F' → Q v H') : rSlAny X.K x lo hi H Q := by
  unfold slD at e
  split at e
  · cases e
    simp only [Top] at t
    obtain ⟨c, us, rfl, sq, z, r⟩ := t
    exact .inl ⟨c, us, rfl, sq.l, fun p hp => k _ _ F (Sub.refl F) (Res.newLst R (r.cut lo hi) (Nat.le_trans (cutV_length us lo hi) z) hp)⟩
  · rename_i xs
    cases e
    simp only [Top, Rep] at t
    obtain ⟨c, us, rfl, sq, z, r⟩ := t
    have sq' : SqT X.K H c us := by rw [hK]; exact R.fz.sub.sqT sq.t
    by_cases hw : HT.sIx us.length 0 lo = 0 ∧ HT.sIx us.length us.length hi = us.length
    · refine .inr (.inr (.inl ⟨c, us, rfl, sq', hw, k _ H F (Sub.refl F) ⟨R, ?_⟩⟩))
      have : cutD xs lo hi = xs := by
        unfold cutD
        rw [r.len, hw.1, hw.2, List.drop_zero, Nat.sub_zero, ← r.len, List.take_length]
      rw [this]
      simp only [Rep]
      exact ⟨c, us, rfl, sq, z, r⟩
    · refine .inr (.inl ⟨c, us, rfl, sq', hw, fun p o hp hd => ?_⟩)
      obtain ⟨s, q⟩ := Res.newTup R (r.cut lo hi) (Nat.le_trans (cutV_length us lo hi) z) hp hd
      exact k _ _ _ s q
  · cases e
    simp only [Top, Rep] at t
    obtain ⟨rfl, hz, ok⟩ := t
    refine .inr (.inr (.inr ⟨_, rfl, hz, k _ H F (Sub.refl F) ⟨R, ?_⟩⟩))
    simp only [Rep]
    exact ⟨trivial, cutS_ok lo hi ok hz⟩
  · cases e
theorem Res.one {T : List (Addr × D)} {o : OV} {v : V} {ρ : Env} {σ : St} {H F : Hp} (h : Res g T o v ρ σ H F) : Rl g (tmp1 o v ++ T) ρ σ H F ∧ OV1 g σ F o v := by
  cases o with
  | val d => exact ⟨h.1, h.2⟩
  | slot i => exact ⟨h.1, h.2⟩
  | fresh c => obtain ⟨a, rfl, R⟩ := h; exact ⟨R, a, rfl⟩
end
def asI : OV → Option Int
  | .val (.int i) => some i
  | _ => none
theorem asI_some {o : OV} {i : Int} (h : asI o = some i) : o = .val (.int i) := by
  unfold asI at h
  split at h
  · cases h; rfl
  · cases h
def evP : Option ME → Env → R (Option Int)
  | none, ρ => .ok none ρ
  | some m, ρ => (m ρ).bind fun o ρ1 => lift (asI o) fun i => .ok (some i) ρ1
def eSl (ma : ME) (lo hi : Option ME) : ME := fun ρ => (ma ρ).bind fun o ρ1 => (evP lo ρ1).bind fun l ρ2 => (evP hi ρ2).bind fun h ρ3 => lift (getO ρ3 o) fun d => lift (slD l h d) fun r => .ok r.ov ρ3
def SP2 (X : Cx) (g : Bg) (W : WX) (e : Option Expr) (m : Option ME) : Prop := PO X e (match m with | none => tNoPart | some m => tPart (rdE g W m))
section
variable {X : Cx} {g : Bg} {W : WX} {a b e : Expr} {ma mb m : ME} {pos p2 : Pos}
theorem SP2.none : SP2 X g W none none := po_none
theorem SP2.some (h : SE X g W e m) : SP2 X g W (some e) (some m) := po_some h
theorem rdP {T : List (Addr × D)} {ρ : Env} {σ : St} {H F : Hp} {p : Option ME} {Q : Option Int → Hp → Prop} (R : Rl g T ρ σ H F)
    (h : match evP p ρ with | .ok l ρ' => ∀ H' F', Sub F F' → Rl g T ρ' σ H' F' → Q l H' | .ex e ρ' => Xw g W σ F e ρ' | .no => False) :
    (match p with | none => tNoPart | some m => tPart (rdE g W m)) σ H Q := by
  cases p with
  | none => exact h H F (Sub.refl F) R
  | some m =>
    refine ⟨T, ρ, F, R, ?_⟩
    simp only [evP] at h
    cases e1 : m ρ with
    | no => simp only [e1, RF.R.bind] at h
    | ex x ρ1 => simp only [e1, RF.R.bind] at h; exact h
    | ok o ρ1 =>
      simp only [e1, RF.R.bind] at h
      intro v H1 F1 s1 r1
      cases e2 : asI o with
      | none => simp only [e2, lift] at h
      | some i =>
        simp only [e2, lift] at h
        have := asI_some e2
        subst this
        exact ⟨i, r1.2, h H1 F1 s1 r1.1⟩
theorem SE.sl {lo hi : Option Expr} {ml mh : Option ME} (hK : X.K = g.K) (ha : SE X g W a ma) (hl : SP2 X g W lo ml) (hh : SP2 X g W hi mh) : SE X g W (.Subscript a (.Slice lo hi none p2) pos) (eSl ma ml mh) := by
  refine PEimp (pe_slice sl_any ha hl hh) fun σ H Q q => ?_
  obtain ⟨T, ρ, F, R, q⟩ := q
  refine ⟨T, ρ, F, R, ?_⟩
  simp only [eSl] at q
  cases e1 : ma ρ with
  | no => simp only [e1, RF.R.bind] at q
  | ex x ρ1 => simp only [e1, RF.R.bind] at q; exact q
  | ok o ρ1 =>
    simp only [e1, RF.R.bind] at q
    intro v H1 F1 s1 r1
    obtain ⟨R1, z1⟩ := r1.one
    refine rdP (W := W) R1 ?_
    cases e2 : evP ml ρ1 with
    | no => simp only [e2] at q
    | ex x ρ2 => simp only [e2] at q; exact Xw.mono s1 q
    | ok l ρ2 =>
      simp only [e2] at q
      intro H2 F2 s2 R2
      refine rdP (W := W) R2 ?_
      cases e3 : evP mh ρ2 with
      | no => simp only [e3] at q
      | ex x ρ3 => simp only [e3] at q; exact Xw.mono (s1.trans s2) q
      | ok h ρ3 =>
        simp only [e3] at q
        intro H3 F3 s3 R3
        cases e4 : getO ρ3 o with
        | none => simp only [e4, lift] at q
        | some d =>
          simp only [e4, lift] at q
          cases e5 : slD l h d with
          | none => simp only [e5] at q
          | some rv =>
            simp only [e5] at q
            have tp : Top g.K g.mg H3 F3 d v := (z1.mono (s2.trans s3)).top R3 (fun p hp => List.mem_append_left _ hp) e4
            exact sl_ok hK (R3.drops (T' := tmp1 o v)) tp e5 fun w H4 F4 s4 r4 => q w H4 F4 (((s1.trans s2).trans s3).trans s4) r4
end

/-! ### built-in functions by their names -/
def Cb (X : Cx) (g : Bg) (fv : Value) (f : List D → Option RV) : Prop := ∃ r, CallR X fv r ∧ OkL g f r
section
variable {X : Cx} {g : Bg} {W : WX} {e : Expr} {es : List Expr} {ms : List ME} {x : Str} {p pos : Pos} {f : List D → Option RV} {id T : String}
theorem SE.callB (h : Cb X g (.builtin id) f) (hg : Gl X x) (hm : X.mg x = none) (hv : bootBuiltins x = some (.builtin id)) (ha : SA X g W (e :: es) ms) (hs : (e :: es).all notStar = true) (hn : x ≠ "__name__") (hdb : (x == ("__debug__" : Str)) = false) :
    SE X g W (.Call (.Name x p) (e :: es) [] pos) (eOp f ms) := by
  obtain ⟨r, hc, ok⟩ := h
  simp only [List.all_cons, Bool.and_eq_true] at hs
  exact PEimp (pe_callB hc hg hm hv ha hn hdb (star_ok hs.1) (star_any pos hs.2)) fun σ H Q q => rdOp ok q
theorem SE.callTy (h : Cb X g (.type T) f) (hg : Gl X x) (hm : X.mg x = none) (hv : bootBuiltins x = some (.type T)) (ha : SA X g W (e :: es) ms) (hs : (e :: es).all notStar = true) (hn : x ≠ "__name__") (hdb : (x == ("__debug__" : Str)) = false) :
    SE X g W (.Call (.Name x p) (e :: es) [] pos) (eOp f ms) := by
  obtain ⟨r, hc, ok⟩ := h
  simp only [List.all_cons, Bool.and_eq_true] at hs
  exact PEimp (pe_callTy hc hg hm hv ha hn hdb (star_ok hs.1) (star_any pos hs.2)) fun σ H Q q => rdOp ok q
end
def lenD : List D → Option RV
  | [.str s] => some (.val (.int s.length))
  | [.lst xs] => some (.val (.int xs.length))
  | [.tup xs] => some (.val (.int xs.length))
  | [.set xs] => if xs.length < 1000 then some (.val (.int xs.length)) else none
  | [.iset l] => some (.val (.int l.length))
  | _ => none
def bls : List D → Option (List Bool)
  | [] => some []
  | .bl b :: ds => (bls ds).map (b :: ·)
  | _ => none
def allD : List D → Option RV
  | [.lst xs] => (bls xs).map fun bs => .val (.bl (bs.all id))
  | _ => none
def anyD : List D → Option RV
  | [.lst xs] => (bls xs).map fun bs => .val (.bl (bs.any id))
  | _ => none
def intsD : List D → Option (List Int)
  | [] => some []
  | .int b :: ds => (intsD ds).map (b :: ·)
  | _ => none
def sumD : List D → Option RV
  | [.lst xs] => (intsD xs).map fun ns => .val (.int ns.sum)
  | _ => none
def maxD : List D → Option RV
  | [.int i, .int j] => some (.val (.int (if j > i then j else i)))
  | _ => none
def strsD : List D → Option (List Str)
  | [] => some []
  | .str b :: ds => (strsD ds).map (b :: ·)
  | _ => none
theorem strs_reps {K : PySem.W.Frag} {mg : Mg} {F : Hp} : ∀ {ds : List D} {bs : List Str} {vs : List V}, strsD ds = some bs → Reps K mg F ds vs → vs = bs.map V.str ∧ ∀ b ∈ bs, PyData.strOk b = true
  | [], bs, vs, e, r => by simp only [strsD, Option.some.injEq] at e; subst e; simp only [Reps] at r; subst r; exact ⟨rfl, fun b hb => by cases hb⟩
  | d :: ds, bs, vs, e, r => by
    cases d <;> simp only [strsD] at e <;> try cases e
    rename_i b
    cases q : strsD ds with
    | none => rw [q] at e; cases e
    | some bs' =>
      rw [q] at e; simp only [Option.map_some, Option.some.injEq] at e; subst e
      simp only [Reps, Rep] at r
      obtain ⟨v, vr, rfl, ⟨rfl, _, ok⟩, r⟩ := r
      obtain ⟨h1, h2⟩ := strs_reps q r
      refine ⟨by rw [h1]; rfl, fun b' hb => ?_⟩
      rcases List.mem_cons.mp hb with rfl | hb
      · exact ok
      · exact h2 b' hb

/-- the first of the least of some texts -/
def minT (xs : List D) : Option RV := match strsD xs with
  | some (y :: ys) => some (.val (.str (PySem.W.minOf y ys)))
  | _ => none
def minD : List D → Option RV
  | [.int i, .int j] => some (.val (.int (if j < i then j else i)))
  | [.lst xs] => minT xs
  | [.tup xs] => minT xs
  | _ => none
def listD : List D → Option RV
  | [.lst xs] => some (.fresh (.lst xs))
  | [.tup xs] => some (.fresh (.lst xs))
  | [.str s] => some (.fresh (.lst (s.cps.toList.map fun c => .str ⟨#[c]⟩)))
  | _ => none
def tupleD : List D → Option RV
  | [.lst xs] => some (.val (.tup xs))
  | [.tup xs] => some (.val (.tup xs))
  | _ => none
section
variable {K : PySem.W.Frag} {mg : Mg} {F : Hp}
theorem bls_reps : ∀ {ds : List D} {bs : List Bool} {vs : List V}, bls ds = some bs → Reps K mg F ds vs → vs = bs.map V.bl
  | [], bs, vs, e, r => by simp only [bls, Option.some.injEq] at e; subst e; simp only [Reps] at r; subst r; rfl
  | d :: ds, bs, vs, e, r => by
    cases d <;> simp only [bls] at e <;> try cases e
    rename_i b
    cases q : bls ds with
    | none => rw [q] at e; cases e
    | some bs' =>
      rw [q] at e; simp only [Option.map_some, Option.some.injEq] at e; subst e
      simp only [Reps, Rep] at r
      obtain ⟨v, vr, rfl, rfl, r⟩ := r
      rw [bls_reps q r]; rfl
theorem ints_reps : ∀ {ds : List D} {bs : List Int} {vs : List V}, intsD ds = some bs → Reps K mg F ds vs → vs = bs.map V.int
  | [], bs, vs, e, r => by simp only [intsD, Option.some.injEq] at e; subst e; simp only [Reps] at r; subst r; rfl
  | d :: ds, bs, vs, e, r => by
    cases d <;> simp only [intsD] at e <;> try cases e
    rename_i b
    cases q : intsD ds with
    | none => rw [q] at e; cases e
    | some bs' =>
      rw [q] at e; simp only [Option.map_some, Option.some.injEq] at e; subst e
      simp only [Reps, Rep] at r
      obtain ⟨v, vr, rfl, rfl, r⟩ := r
      rw [ints_reps q r]; rfl
theorem signs_reps {s : Str} (ok : PyData.strOk s = true) : Reps K mg F (s.cps.toList.map fun c => .str ⟨#[c]⟩) (s.cps.toList.map fun c => V.str ⟨#[c]⟩) := by
  have : ∀ l : List Nat, (∀ c ∈ l, c ∈ s.cps.toList) → Reps K mg F (l.map fun c => .str ⟨#[c]⟩) (l.map fun c => V.str ⟨#[c]⟩) := by
    intro l
    induction l with
    | nil => intro _; exact Reps.nil
    | cons c l ih =>
      intro h
      refine Reps.cons ?_ (ih fun c' hc => h c' (List.mem_cons_of_mem _ hc))
      simp only [Rep]
      exact ⟨trivial, by show 1 ≤ sizeLine; decide, strOk_mk (l := [c]) fun c' hc => by
        simp only [List.mem_singleton] at hc; subst hc; exact strOk_of ok (h _ List.mem_cons_self)⟩
  exact this _ fun c hc => hc
end
section
variable {X : Cx} {g : Bg}
/-- len of a set -/
def rLenSet (mg : Mg) : List V → Hp → VK → Prop := fun xs H Q => ∃ a, xs = [.ref a] ∧ ((∃ l, H a = some (SetSO mg a l) ∧ l.length < 1000 ∧ Q (.int l.length) H) ∨ ∃ l, H a = some (SetIO mg a l) ∧ Q (.int l.length) H)
theorem call_lenSet (hG : md X = g.mg) : CallR X (.builtin "len") (rLenSet g.mg) := by
  intro pins s σ H xs us Q I r h
  obtain ⟨a, rfl, h⟩ := h
  obtain ⟨u, rfl, ru⟩ := vals1 r
  cases ru
  rcases h with ⟨l, ha, hl, q⟩ | ⟨l, ha, q⟩
  · obtain ⟨T, ho, ok, _⟩ := (show ∃ T : Froz.SD, s.heap.get? a = some (Froz.sObj "set" T) ∧ Froz.TxOk g.mg.P g.mg.w T l ∧ Ris T.2.2.place.toList ∧ (g.mg.w.params.followText "set-order" = true ∨ T.2.2.led = true) from (I.hok a _ ha).1)
    have hsz := ok.sz
    exact call_len_set ho ⟨rfl, rfl, rfl⟩ rfl ok.fit (by rw [hsz]; omega) ⟨.int l.length, H, I.tok _, ⟨_, by rw [hsz]⟩, q⟩
  · obtain ⟨o, es, ep, t, ho, hex, hd, _, _, _, hb, hf, hn, _⟩ := (show SetR g.mg.w s.heap a (fun j => decide (j ∈ l)) l.length from (I.hok a _ ha).1)
    exact call_len_set ho hex hd hf (by unfold scanBound at hb; omega) ⟨.int l.length, H, I.tok _, ⟨_, by rw [hn]⟩, q⟩
theorem cb_len (hK : X.K = g.K) (hG : md X = g.mg) : Cb X g (.builtin "len") lenD := ⟨_, call_len.or (call_lenSet hG), fun T ρ σ H F ds vs rv Q R t e k => by
  unfold lenD at e
  split at e
  · cases e; obtain ⟨x, rfl, t1⟩ := t.one
    simp only [Top, Rep] at t1; obtain ⟨rfl, z, _⟩ := t1
    exact .inl ⟨_, _, rfl, ⟨z, rfl⟩, k _ H F (Sub.refl F) ⟨R, rep_int F⟩⟩
  · cases e; obtain ⟨x, rfl, t1⟩ := t.one
    simp only [Top] at t1; obtain ⟨a, us, rfl, q, z, r⟩ := t1
    refine .inl ⟨_, us.length, rfl, .inl ⟨us, q.l, rfl⟩, ?_⟩
    rw [← r.len]
    exact k _ H F (Sub.refl F) ⟨R, rep_int F⟩
  · cases e; obtain ⟨x, rfl, t1⟩ := t.one
    simp only [Top, Rep] at t1; obtain ⟨a, us, rfl, q, z, r⟩ := t1
    refine .inl ⟨_, us.length, rfl, .inr ⟨us, by rw [hK]; exact R.fz.sub.sqT q.t, rfl⟩, ?_⟩
    rw [← r.len]
    exact k _ H F (Sub.refl F) ⟨R, rep_int F⟩
  · split at e
    · rename_i hl
      cases e; obtain ⟨x, rfl, t1⟩ := t.one
      simp only [Top] at t1; obtain ⟨a, l, rfl, q, nd, hg, rfl⟩ := t1
      rw [List.length_map] at k hl
      exact .inr ⟨a, rfl, .inl ⟨l, q, hl, k _ H F (Sub.refl F) ⟨R, rep_int F⟩⟩⟩
    · cases e
  · cases e; obtain ⟨x, rfl, t1⟩ := t.one
    simp only [Top] at t1; obtain ⟨a, rfl, q, nd⟩ := t1
    exact .inr ⟨a, rfl, .inr ⟨_, q, k _ H F (Sub.refl F) ⟨R, rep_int F⟩⟩⟩
  · cases e⟩
theorem cb_all (hK : X.K = g.K) (hc : X.calm = true) : Cb X g (.builtin "all") allD := ⟨_, cr_all hc, fun T ρ σ H F ds vs rv Q R t e k => by
  unfold allD at e
  split at e
  · rename_i xs
    cases q : bls xs with
    | none => rw [q] at e; cases e
    | some bs =>
      rw [q] at e; cases e; obtain ⟨x, rfl, t1⟩ := t.one
      simp only [Top] at t1; obtain ⟨a, us, rfl, sq, z, r⟩ := t1
      have := bls_reps q r
      subst this
      exact ⟨a, bs, rfl, sq.l, k _ H F (Sub.refl F) ⟨R, rep_bl F⟩⟩
  · cases e⟩
theorem cb_any (hK : X.K = g.K) (hc : X.calm = true) : Cb X g (.builtin "any") anyD := ⟨_, cr_any hc, fun T ρ σ H F ds vs rv Q R t e k => by
  unfold anyD at e
  split at e
  · rename_i xs
    cases q : bls xs with
    | none => rw [q] at e; cases e
    | some bs =>
      rw [q] at e; cases e; obtain ⟨x, rfl, t1⟩ := t.one
      simp only [Top] at t1; obtain ⟨a, us, rfl, sq, z, r⟩ := t1
      have := bls_reps q r
      subst this
      exact ⟨a, bs, rfl, sq.l, k _ H F (Sub.refl F) ⟨R, rep_bl F⟩⟩
  · cases e⟩
theorem cb_sum (hK : X.K = g.K) (hc : X.calm = true) : Cb X g (.builtin "sum") sumD := ⟨_, cr_sum hc, fun T ρ σ H F ds vs rv Q R t e k => by
  unfold sumD at e
  split at e
  · rename_i xs
    cases q : intsD xs with
    | none => rw [q] at e; cases e
    | some bs =>
      rw [q] at e; cases e; obtain ⟨x, rfl, t1⟩ := t.one
      simp only [Top] at t1; obtain ⟨a, us, rfl, sq, z, r⟩ := t1
      have := ints_reps q r
      subst this
      exact ⟨a, bs, rfl, sq.l, k _ H F (Sub.refl F) ⟨R, rep_int F⟩⟩
  · cases e⟩
theorem cb_max (hc : X.calm = true) : Cb X g (.builtin "max") maxD := ⟨_, call_max2 hc, fun T ρ σ H F ds vs rv Q R t e k => by
  unfold maxD at e
  split at e
  · cases e; obtain ⟨x, y, rfl, t1, t2⟩ := t.two
    simp only [Top, Rep] at t1 t2; subst t1 t2
    exact ⟨_, _, rfl, k _ H F (Sub.refl F) ⟨R, rep_int F⟩⟩
  · cases e⟩
def rMinT (K : PySem.W.Frag) : List V → Hp → VK → Prop := fun xs H Q => ∃ a y ys, xs = [.ref a] ∧ (SqL K H a (V.str y :: ys.map V.str) ∨ SqT K H a (V.str y :: ys.map V.str)) ∧ Q (.str (PySem.W.minOf y ys)) H
theorem call_minT (hc : X.calm = true) (hu : X.A.units + 64 < cLine) : CallR X (.builtin "min") (rMinT X.K) := by
  intro pins s σ H xs us Q I r h
  obtain ⟨a, y, ys, rfl, hs, q⟩ := h
  obtain ⟨u, rfl, ru⟩ := Vals.one r
  cases ru
  have hd : X.A.units + 1 + PySem.W.Datum.depth Str < cLine := by
    have : PySem.W.Datum.depth Str ≤ 1 := by decide
    omega
  have fin : ∀ {v : Value} {h' : Heap} {tk : Nat}, PySem.W.Holds h' v (PySem.W.minOf y ys) → (∀ b o, s.heap.get? b = some o → h'.get? b = some o) → EP X pins σ Q v { s with heap := h', toks := tk } := fun {v h' tk} hv hk => by
    obtain ⟨as, hr⟩ := hv
    have hr' : Reads h' v (.str (PySem.W.minOf y ys)) as := hr
    cases hr'
    exact ⟨.str _, H, I.kept hk, ⟨_, rfl⟩, q⟩
  rcases hs with hs | hs
  · obtain ⟨its, rv, hl, _⟩ := I.list hs
    have rs : Vals ((y :: ys).map V.str) its := rv
    exact PySem.W.min_list_datum (I.ok.hd hc) hl.isList (x := y) (xs := ys) (PySem.W.HoldAll.of_strs rs.strs) hd fun i v h' tk _ hv hk => fin hv hk
  · obtain ⟨its, rv, hl, _⟩ := I.tuple hs
    have rs : Vals ((y :: ys).map V.str) its := rv
    exact PySem.W.min_tuple_datum (I.ok.hd hc) (show s.heap.IsTuple a its.toArray from hl) (x := y) (xs := ys) (PySem.W.HoldAll.of_strs rs.strs) hd fun i v h' tk _ hv hk => fin hv hk
theorem minT_some {xs : List D} {rv : RV} (h : minT xs = some rv) : ∃ y ys, strsD xs = some (y :: ys) ∧ rv = .val (.str (PySem.W.minOf y ys)) := by
  unfold minT at h
  split at h
  · rename_i y ys e; cases h; exact ⟨y, ys, e, rfl⟩
  · cases h
theorem minOf_mem (y : Str) (ys : List Str) : PySem.W.minOf y ys ∈ y :: ys := by
  unfold PySem.W.minOf
  induction ys generalizing y with
  | nil => simp
  | cons z zs ih =>
    rw [List.foldl_cons]
    rcases List.mem_cons.mp (ih (if PySem.W.DatumOrd.lt z y = true then z else y)) with e | e
    · rw [e]; split <;> simp
    · exact List.mem_cons_of_mem _ (List.mem_cons_of_mem _ e)
theorem strs_fit {K : PySem.W.Frag} {mg : Mg} {F : Hp} : ∀ {ds : List D} {bs : List Str} {vs : List V}, strsD ds = some bs → Reps K mg F ds vs → ∀ b ∈ bs, b.length ≤ sizeLine ∧ PyData.strOk b = true
  | [], bs, vs, e, r => by simp only [strsD, Option.some.injEq] at e; subst e; exact fun b hb => by cases hb
  | d :: ds, bs, vs, e, r => by
    cases d <;> simp only [strsD] at e <;> try cases e
    rename_i b
    cases q : strsD ds with
    | none => rw [q] at e; cases e
    | some bs' =>
      rw [q] at e; simp only [Option.map_some, Option.some.injEq] at e; subst e
      simp only [Reps, Rep] at r
      obtain ⟨v, vr, rfl, ⟨rfl, ok⟩, r⟩ := r
      intro b' hb
      rcases List.mem_cons.mp hb with rfl | hb
      · exact ok
      · exact strs_fit q r b' hb
theorem cb_min (hK : X.K = g.K) (hc : X.calm = true) (hu : X.A.units + 64 < cLine) : Cb X g (.builtin "min") minD := ⟨_, (call_min2 hc).or (call_minT hc hu), fun T ρ σ H F ds vs rv Q R t e k => by
  have fin : ∀ {xs : List D} {a : Addr} {us : List V}, minT xs = some rv → (SqL X.K H a us ∨ SqT X.K H a us) → Reps g.K g.mg F xs us → rMinT X.K [.ref a] H Q := fun {xs a us} e sq r => by
    obtain ⟨y, ys, e1, rfl⟩ := minT_some e
    obtain ⟨rfl, _⟩ := strs_reps e1 r
    refine ⟨a, y, ys, rfl, sq, k _ H F (Sub.refl F) ⟨R, ?_⟩⟩
    simp only [Rep]
    exact ⟨trivial, strs_fit e1 r _ (minOf_mem y ys)⟩
  unfold minD at e
  split at e
  · cases e; obtain ⟨x, y, rfl, t1, t2⟩ := t.two
    simp only [Top, Rep] at t1 t2; subst t1 t2
    exact .inl ⟨_, _, rfl, k _ H F (Sub.refl F) ⟨R, rep_int F⟩⟩
  · obtain ⟨x, rfl, t1⟩ := t.one
    simp only [Top] at t1; obtain ⟨a, us, rfl, q, z, r⟩ := t1
    exact .inr (fin e (.inl q.l) r)
  · obtain ⟨x, rfl, t1⟩ := t.one
    simp only [Top, Rep] at t1; obtain ⟨a, us, rfl, q, z, r⟩ := t1
    exact .inr (fin e (.inr (by rw [hK]; exact R.fz.sub.sqT q.t)) r)
  · cases e⟩
/-- int(truth), int(number) -/
def intD : List D → Option RV
  | [.int i] => some (.val (.int i))
  | [.bl b] => some (.val (.int (if b then 1 else 0)))
  | _ => none
theorem cb_int : Cb X g (.type "int") intD := ⟨_, call_int1, fun T ρ σ H F ds vs rv Q R t e k => by
  unfold intD at e
  split at e
  · cases e; obtain ⟨x, rfl, t1⟩ := t.one
    simp only [Top, Rep] at t1; subst t1
    exact .inl ⟨_, rfl, k _ H F (Sub.refl F) ⟨R, rep_int F⟩⟩
  · cases e; obtain ⟨x, rfl, t1⟩ := t.one
    simp only [Top, Rep] at t1; subst t1
    exact .inr ⟨_, rfl, k _ H F (Sub.refl F) ⟨R, rep_int F⟩⟩
  · cases e⟩
/-- list(text) -/
theorem call_listS (hc : X.calm = true) : CallR X (.type "list") (fun xs H Q => ∃ z : Str, xs = [.str z] ∧ z.length ≤ sizeLine ∧ ∀ l, H l = none → Q (.ref l) (upd H l (.lst (z.cps.toList.map fun c => V.str ⟨#[c]⟩)))) := by
  intro pins s σ H xs us Q I r h
  obtain ⟨z, rfl, hz, q⟩ := h
  obtain ⟨u, rfl, rx⟩ := Vals.one r
  obtain ⟨t, rfl⟩ := rx
  refine call_list_str (I.ok.hd hc) z t (fun h' tk acc c' hk e' hi => ?_) hz
  obtain ⟨hi1, hi2⟩ := hi
  have hv : Vals (z.cps.toList.map fun c => V.str ⟨#[c]⟩) acc.toList := by
    have : ∀ (l : List Nat) (us : List Value), us.length = l.length → (∀ (j : Nat) (v : Value), us[j]? = some v → ∃ c t, l[j]? = some c ∧ v = Value.str ⟨#[c]⟩ t) → Vals (l.map fun c => V.str ⟨#[c]⟩) us := by
      intro l
      induction l with
      | nil => intro us hl _; have : us = [] := List.length_eq_zero_iff.mp hl; subst this; exact .nil
      | cons c l ih =>
        intro us hl hj
        cases us with
        | nil => simp at hl
        | cons u us =>
          obtain ⟨c', t, e1, e2⟩ := hj 0 u rfl
          simp at e1; subst e1 e2
          exact .cons ⟨t, rfl⟩ (ih us (by simpa using hl) fun j v e => by simpa using hj (j + 1) v (by simpa using e))
    refine this _ _ (by rw [Array.length_toList, hi1]; simp) fun j v e => ?_
    have := hi2 j v (by simpa using e)
    obtain ⟨c, t, h1, h2⟩ := this
    exact ⟨c, t, by simpa using h1, h2⟩
  refine ⟨.ref s.heap.objs.size, _, I.laid hk (Nat.le_refl _) (show ObjOk X.prog X.w _ _ _ (.lst (z.cps.toList.map fun c => V.str ⟨#[c]⟩)) from ⟨by rw [List.length_map, Array.length_toList]; exact hz, acc.toList, c', hv, ?_⟩), rfl, q _ (I.hok.fresh (Nat.le_refl _))⟩
  rw [Array.toArray_toList]; exact e'
theorem cb_list (hK : X.K = g.K) (hc : X.calm = true) : Cb X g (.type "list") listD := ⟨_, call_list_of.or (call_listS hc), fun T ρ σ H F ds vs rv Q R t e k => by
  unfold listD at e
  split at e
  · cases e; obtain ⟨x, rfl, t1⟩ := t.one
    simp only [Top] at t1; obtain ⟨a, us, rfl, q, z, r⟩ := t1
    exact .inl ⟨a, us, rfl, .inl q.l, fun p hp => k _ _ F (Sub.refl F) (Res.newLst R r z hp)⟩
  · cases e; obtain ⟨x, rfl, t1⟩ := t.one
    simp only [Top, Rep] at t1; obtain ⟨a, us, rfl, q, z, r⟩ := t1
    exact .inl ⟨a, us, rfl, .inr (by rw [hK]; exact R.fz.sub.sqT q.t), fun p hp => k _ _ F (Sub.refl F) (Res.newLst R r z hp)⟩
  · cases e; obtain ⟨x, rfl, t1⟩ := t.one
    simp only [Top, Rep] at t1; obtain ⟨rfl, z, ok⟩ := t1
    exact .inr ⟨_, rfl, z, fun p hp => k _ _ F (Sub.refl F) (Res.newLst R (signs_reps ok) (by rw [List.length_map, Array.length_toList]; exact z) hp)⟩
  · cases e⟩
theorem cb_tuple (hK : X.K = g.K) : Cb X g (.type "tuple") tupleD := ⟨_, call_tupleN, fun T ρ σ H F ds vs rv Q R t e k => by
  unfold tupleD at e
  split at e
  · cases e; obtain ⟨x, rfl, t1⟩ := t.one
    simp only [Top] at t1; obtain ⟨a, us, rfl, q, z, r⟩ := t1
    refine ⟨a, us, rfl, .inl ⟨q.l, fun p o hp hd => ?_⟩⟩
    obtain ⟨s, q⟩ := Res.newTup R r z hp hd
    exact k _ _ _ s q
  · cases e; obtain ⟨x, rfl, t1⟩ := t.one
    simp only [Top, Rep] at t1; obtain ⟨a, us, rfl, q, z, r⟩ := t1
    exact ⟨a, us, rfl, .inr ⟨by rw [hK]; exact R.fz.sub.sqT q.t, k _ H F (Sub.refl F) ⟨R, by simp only [Rep]; exact ⟨a, us, rfl, q, z, r⟩⟩⟩⟩
  · cases e⟩
end
end RF
end
section
/-! R11: what is walked; lists that are changed; methods of texts; isinstance. -/
namespace RF
open PySem L2

/-! ### what is walked -/
section
variable {X : Cx} {g : Bg} {W : WX} {e tg : Expr} {m : ME} {pos p : Pos}
theorem it_str {F : Hp} {s : Str} (ok : PyData.strOk s = true) : ItOk g F (Its s) (s.cps.toList.map fun c => .str ⟨#[c]⟩) := fun T ρ σ H F' sF R => by
  refine ⟨fun i hi => by simpa [Its] using hi, fun i d hd => ?_⟩
  rw [List.getElem?_map] at hd
  cases q : s.cps.toList[i]? with
  | none => rw [q] at hd; cases hd
  | some c =>
    rw [q] at hd
    simp only [Option.map_some, Option.some.injEq] at hd
    subst hd
    have hlt : i < s.cps.size := by simpa using (List.getElem?_eq_some_iff.mp q).1
    refine ⟨hlt, fun x H' ⟨e, c', e1, e2⟩ => ?_⟩
    subst e e2
    have : c' = c := by
      rw [Array.getElem?_toList] at q
      rw [q] at e1; exact (Option.some.inj e1).symm
    subst this
    refine ⟨F', Sub.refl F', R, ?_⟩
    simp only [Rep]
    exact ⟨trivial, by show 1 ≤ sizeLine; decide, strOk_mk (l := [c']) fun c2 hc => by
      simp only [List.mem_singleton] at hc; subst hc; exact strOk_of ok (List.mem_of_getElem? q)⟩
theorem it_range {F : Hp} {lo hi : Int} : ItOk g F (Itr lo (hi - lo).toNat) (rangeD lo hi) := fun T ρ σ H F' sF R => by
  refine ⟨fun i h => by simpa [Itr, rangeD] using h, fun i d hd => ?_⟩
  unfold rangeD at hd
  rw [List.getElem?_map] at hd
  cases q : (List.range (hi - lo).toNat)[i]? with
  | none => rw [q] at hd; cases hd
  | some j =>
    rw [q] at hd
    simp only [Option.map_some, Option.some.injEq] at hd
    subst hd
    obtain ⟨hlt, hj⟩ := List.getElem?_eq_some_iff.mp q
    rw [List.getElem_range] at hj
    subst hj
    refine ⟨(show i < (hi - lo).toNat by simpa using hlt), fun x H' ⟨e1, e2⟩ => ?_⟩
    subst e1 e2
    exact ⟨F', Sub.refl F', R, rep_int F'⟩
theorem enumD_get : ∀ {xs : List D} {k i : Nat} {d : D}, (enumD k xs)[i]? = some d → ∃ x, xs[i]? = some x ∧ d = .tup [.int ((k + i : Nat) : Int), x]
  | [], k, i, d, h => by simp [enumD] at h
  | x :: xs, k, 0, d, h => by simp [enumD] at h; subst h; exact ⟨x, by simp, by simp⟩
  | x :: xs, k, i + 1, d, h => by
    obtain ⟨y, h1, h2⟩ := enumD_get (xs := xs) (k := k + 1) (i := i) (by simpa [enumD] using h)
    exact ⟨y, by simpa using h1, by rw [h2]; congr 4; omega⟩
theorem enumD_len : ∀ {xs : List D} {k : Nat}, (enumD k xs).length = xs.length
  | [], _ => rfl
  | x :: xs, k => by simp [enumD, enumD_len]
/-- a new pair (i, x), frozen -/
theorem pair_new {T : List (Addr × D)} {ρ : Env} {σ : St} {H F : Hp} {q : Addr} {o : Obj} {i : Nat} {x : V} {d : D} (R : Rl g T ρ σ H F) (hq : H q = none) (hd : o.dict = none) (r : Rep g.K g.mg F d x) :
    ∃ F', Sub F F' ∧ Rl g T ρ σ (upd H q (.frz o (.tup [.int (i : Nat), x]))) F' ∧ Rep g.K g.mg F' (.tup [.int ((i : Nat) : Int), d]) (.ref q) := by
  obtain ⟨s, h1, h2⟩ := Res.newTup (ds := [.int ((i : Nat) : Int), d]) (vs := [.int (i : Nat), x]) R (Reps.cons (rep_int F) (Reps.cons r Reps.nil)) (by show 2 ≤ sizeLine; decide) hq hd
  exact ⟨_, s, h1, h2⟩
theorem it_enumL {F : Hp} {a : Addr} {ds : List D} {vs : List V} (sq : SqR F a vs) (r : Reps g.K g.mg F ds vs) : ItOk g F (IteL g.K a) (enumD 0 ds) := fun T ρ σ H F' s R => by
  have q : SqL g.K H a vs := ((s.trans R.fz.sub).sqR sq).l
  refine ⟨fun i hi => ⟨vs, q, by rw [← r.len, ← enumD_len (k := 0)]; exact hi⟩, fun i d hd => ?_⟩
  obtain ⟨y, hy, rfl⟩ := enumD_get hd
  obtain ⟨v, hv, rv⟩ := r.get hy
  refine ⟨⟨vs, v, q, hv⟩, fun x H' ⟨A, z, o, ex, hA, hd, eH, hz⟩ => ?_⟩
  subst ex eH
  have := hz vs q
  rw [hv] at this; cases this
  rw [Nat.zero_add]
  exact pair_new R hA hd (Rep.mono s _ _ rv)
theorem it_enumT {F : Hp} {a : Addr} {ds : List D} {vs : List V} (sq : SqT g.K F a vs) (r : Reps g.K g.mg F ds vs) : ItOk g F (IteT g.K a) (enumD 0 ds) := fun T ρ σ H F' s R => by
  have q : SqT g.K H a vs := (s.trans R.fz.sub).sqT sq
  refine ⟨fun i hi => ⟨vs, q, by rw [← r.len, ← enumD_len (k := 0)]; exact hi⟩, fun i d hd => ?_⟩
  obtain ⟨y, hy, rfl⟩ := enumD_get hd
  obtain ⟨v, hv, rv⟩ := r.get hy
  refine ⟨⟨vs, v, q, hv⟩, fun x H' ⟨A, z, o, ex, hA, hd, eH, hz⟩ => ?_⟩
  subst ex eH
  have := hz vs q
  rw [hv] at this; cases this
  rw [Nat.zero_add]
  exact pair_new R hA hd (Rep.mono s _ _ rv)
theorem evU_one {m : ME} {ρ : Env} : evU [m] ρ = (m ρ).bind fun o ρ1 => .ok [o] ρ1 := by
  simp only [evU]
  cases m ρ <;> rfl
/-- a list, a tuple or a text -/
theorem SI.seq (hK : X.K = g.K) (h : SE X g W e m) : SI X g W tg e (iOf seqI [m]) := by
  refine ⟨fun pins s σ H R I q => ?_⟩
  obtain ⟨T, ρ, F, Rr, q⟩ := q
  have hk := SE.keep h
  simp only [iOf, List.map_cons, List.map_nil, evU_one] at q
  cases e1 : eKeep m ρ with
  | no => simp only [e1, RF.R.bind] at q
  | ex x ρ1 =>
    simp only [e1, RF.R.bind] at q
    exact (pi_tup hk).run pins s σ H R I ⟨T, ρ, F, Rr, by rw [e1]; exact q⟩
  | ok o ρ1 =>
    obtain ⟨d, rfl⟩ := asV_keep e1
    simp only [e1, RF.R.bind, getOs, getO, lift] at q
    cases d with
    | lst xs =>
      refine (pi_list hk).run pins s σ H R I ⟨T, ρ, F, Rr, ?_⟩
      rw [e1]
      intro v H1 F1 s1 r1
      obtain ⟨R1, rp⟩ := r1
      simp only [Rep] at rp
      obtain ⟨a, vs, rfl, sq, z, r⟩ := rp
      refine ⟨a, rfl, ⟨vs, (R1.fz.sub.sqR sq).l⟩, ?_⟩
      rw [hK]
      exact q _ H1 F1 s1 R1 (it_list sq.l r) (by rw [r.len]; exact z)
    | tup xs =>
      refine (pi_tup hk).run pins s σ H R I ⟨T, ρ, F, Rr, ?_⟩
      rw [e1]
      intro v H1 F1 s1 r1
      obtain ⟨R1, rp⟩ := r1
      simp only [Rep] at rp
      obtain ⟨a, vs, rfl, sq, z, r⟩ := rp
      refine ⟨a, rfl, ⟨vs, by rw [hK]; exact R1.fz.sub.sqT sq.t⟩, ?_⟩
      rw [hK]
      exact q _ H1 F1 s1 R1 (it_tup sq.t r) (by rw [r.len]; exact z)
    | str x =>
      refine (pi_str hk).run pins s σ H R I ⟨T, ρ, F, Rr, ?_⟩
      rw [e1]
      intro v H1 F1 s1 r1
      obtain ⟨R1, rp⟩ := r1
      simp only [Rep] at rp
      obtain ⟨rfl, z, ok⟩ := rp
      exact ⟨x, rfl, q _ H1 F1 s1 R1 (it_str ok) (by rw [List.length_map, Array.length_toList]; exact z)⟩
    | _ => simp only [seqI, itemsOf] at q
theorem range_len {lo hi : Int} (h1 : -(cap : Int) ≤ lo) (h2 : hi ≤ cap) : (rangeD lo hi).length ≤ sizeLine := by
  simp only [rangeD, List.length_map, List.length_range]
  have h3 : (cap : Int) = 1000000 := rfl
  have h4 : sizeLine = 16777216 := by decide
  omega
theorem SI.range1 {a : Expr} (hg : Gl X "range") (hm : X.mg "range" = none) (h : SE X g W a m) (hs : notStar a = true) : SI X g W tg (.Call (.Name "range" p) [a] [] pos) (iOf range1I [m]) :=
  PIimp (pi_range1 hg hm (SA.cons (SE.keep h) SA.nil (star_ok hs)) (star_ok hs)) fun σ H R q => rdIK (r := fun vs H R => ∃ j : Int, vs = [.int j] ∧ -(2 ^ 62) ≤ j ∧ j < 2 ^ 62 ∧ R (Itr 0 j.toNat) H) (fun T ρ H F ds vs xs Rr r e k => by
    unfold range1I at e
    split at e
    · rename_i j
      split at e
      · rename_i hj
        cases e
        simp only [Reps, Rep] at r
        obtain ⟨v, vr, rfl, rfl, rfl⟩ := r
        have hcap : (cap : Int) = 1000000 := rfl
        refine ⟨j, rfl, by omega, by omega, ?_⟩
        have it := it_range (g := g) (F := F) (lo := 0) (hi := j)
        rw [Int.sub_zero] at it
        exact k _ H F (Sub.refl F) Rr it (range_len (by omega) hj.2)
      · cases e
    · cases e) q
theorem SI.range2 {a b : Expr} {mb : ME} (hg : Gl X "range") (hm : X.mg "range" = none) (h : SE X g W a m) (h' : SE X g W b mb) (hs : notStar a = true) (hs' : notStar b = true) : SI X g W tg (.Call (.Name "range" p) [a, b] [] pos) (iOf range2I [m, mb]) :=
  PIimp (pi_range2 hg hm (SA.cons (SE.keep h) (SA.cons (SE.keep h') SA.nil (star_ok hs')) (star_ok hs)) (by rw [star_ok hs, star_ok hs']; rfl) (star_ok hs')) fun σ H R q => rdIK (ms := [m, mb]) (r := fun vs H R => ∃ i j : Int, vs = [.int i, .int j] ∧ (-(2 ^ 62) ≤ i ∧ i < 2 ^ 62 ∧ -(2 ^ 62) ≤ j ∧ j < 2 ^ 62) ∧ R (Itr i (j - i).toNat) H) (fun T ρ H F ds vs xs Rr r e k => by
    unfold range2I at e
    split at e
    · rename_i i j
      split at e
      · rename_i hj
        cases e
        simp only [Reps, Rep] at r
        obtain ⟨v, vr, rfl, rfl, v', vr', rfl, rfl, rfl⟩ := r
        have hcap : (cap : Int) = 1000000 := rfl
        exact ⟨i, j, rfl, ⟨by omega, by omega, by omega, by omega⟩, k _ H F (Sub.refl F) Rr it_range (range_len hj.1.1 hj.2.2)⟩
      · cases e
    · cases e) q
/-- enumerate(a list or a tuple), taken apart -/
theorem SI.enum {a : Expr} {elts : List Expr} {kk : Nat} {tpos : Pos} (hK : X.K = g.K) (hg : Gl X "enumerate") (hm : X.mg "enumerate" = none) (h : SE X g W a m) (hs : notStar a = true) : SI X g W (.Tuple elts kk tpos) (.Call (.Name "enumerate" p) [a] [] pos) (iOf enumI [m]) := by
  refine ⟨fun pins s σ H R I q => ?_⟩
  have pl := pi_enumL (X := X) (elts := elts) (kk := kk) (tpos := tpos) (p := p) (pos := pos) hg hm (SA.cons (SE.keep h) SA.nil (star_ok hs)) (star_ok hs)
  have pt := pi_enumT (X := X) (elts := elts) (kk := kk) (tpos := tpos) (p := p) (pos := pos) hg hm (SA.cons (SE.keep h) SA.nil (star_ok hs)) (star_ok hs)
  have q0 := q
  obtain ⟨T, ρ, F, Rr, q⟩ := q
  simp only [iOf, List.map_cons, List.map_nil] at q
  cases e1 : evU [eKeep m] ρ with
  | no => simp only [e1, RF.R.bind] at q
  | ex x ρ1 =>
    simp only [e1, RF.R.bind] at q
    exact pl.run pins s σ H R I ⟨T, ρ, F, Rr, by rw [e1]; exact q⟩
  | ok os ρ1 =>
    simp only [e1, RF.R.bind] at q
    cases e2 : getOs ρ1 os with
    | none => simp only [e2, lift] at q
    | some ds =>
      simp only [e2, lift] at q
      cases e3 : enumI ds with
      | none => simp only [e3] at q
      | some xs =>
        simp only [e3] at q
        unfold enumI at e3
        split at e3
        · cases e3
          refine pl.run pins s σ H R I ⟨T, ρ, F, Rr, ?_⟩
          rw [e1]
          intro vs H1 F1 s1 ⟨R1, z1⟩
          have r := evK_reps (ms := [m]) e1 z1 e2
          simp only [Reps, Rep] at r
          obtain ⟨v, vr, rfl, ⟨a, us, rfl, sq, z, r⟩, rfl⟩ := r
          refine ⟨a, us, rfl, (R1.fz.sub.sqR sq).l, ?_⟩
          rw [hK]
          exact q _ H1 F1 s1 R1.drops (it_enumL sq r) (by rw [enumD_len, r.len]; exact z)
        · cases e3
          refine pt.run pins s σ H R I ⟨T, ρ, F, Rr, ?_⟩
          rw [e1]
          intro vs H1 F1 s1 ⟨R1, z1⟩
          have r := evK_reps (ms := [m]) e1 z1 e2
          simp only [Reps, Rep] at r
          obtain ⟨v, vr, rfl, ⟨a, us, rfl, sq, z, r⟩, rfl⟩ := r
          refine ⟨a, us, rfl, by rw [hK]; exact R1.fz.sub.sqT sq.t, ?_⟩
          rw [hK]
          exact q _ H1 F1 s1 R1.drops (it_enumT sq.t r) (by rw [enumD_len, r.len]; exact z)
        · cases e3
end

/-! ### a slot's own thing is changed -/
def getM (ρ : Env) (i : Nat) : Option D := match getS ρ i with
  | some (.own c) => some c
  | some (.bor c) => some c
  | _ => none
theorem getM_some {ρ : Env} {i : Nat} {c : D} (h : getM ρ i = some c) : getS ρ i = some (.own c) ∨ getS ρ i = some (.bor c) := by
  unfold getM at h
  split at h
  · rename_i e; cases h; exact .inl e
  · rename_i e; cases h; exact .inr e
  · cases h
/-- x.m(e, ..), x in slot i: f tells the answer and the thing behind it -/
def isLst : D → Option (List D)
  | .lst xs => some xs
  | _ => none
def eMut (i : Nat) (f : D → List D → Option (RV × D)) (ms : List ME) : ME := fun ρ => lift ((getM ρ i).bind isLst) fun _ => (evU ms ρ).bind fun os ρ1 => lift (getOs ρ1 os) fun ds => lift (getM ρ1 i) fun c => lift (f c ds) fun p =>
  lift (putOut (.slot i) p.2 ρ1) fun ρ2 => .ok p.1.ov ρ2
section
variable {g : Bg} {T : List (Addr × D)} {ρ ρ2 : Env} {σ : St} {H F : Hp} {i : Nat} {c c' : D}
theorem Rl.own_at (R : Rl g T ρ σ H F) (h : getM ρ i = some c) : ∃ a, σ[i]? = some (some (.ref a)) ∧ Ow ρ σ i a ∧ At g.K g.mg H F c a := by
  rcases getM_some h with h | h
  · obtain ⟨v, hv, a, rfl, t⟩ := R.sl i _ h
    exact ⟨a, hv, ⟨_, h, rfl, hv⟩, t.2.2⟩
  · obtain ⟨v, hv, a, rfl, b, t⟩ := R.sl i _ h
    exact ⟨a, hv, ⟨_, h, rfl, hv⟩, t⟩
/-- the thing in slot i is written -/
theorem Rl.write {a : Addr} {o : HO} (R : Rl g T ρ σ H F) (hv : σ[i]? = some (some (.ref a))) (ow : Ow ρ σ i a) (e : putOut (.slot i) c' ρ = some ρ2) (at' : At g.K g.mg (upd H a o) F c' a) : Rl g T ρ2 σ (upd H a o) F := by
  have nF := (R.ow ow).2
  have cases2 : (∃ c0, getS ρ i = some (.own c0) ∧ ρ2 = ρ.set i (some (.own c'))) ∨ ∃ c0, getS ρ i = some (.bor c0) ∧ ρ2 = ρ.set i (some (.bor c')) := by
    simp only [putOut] at e
    split at e
    · rename_i c0 e0; cases e; exact .inl ⟨c0, e0, rfl⟩
    · rename_i c0 e0; cases e; exact .inr ⟨c0, e0, rfl⟩
    · cases e
  have hi : i < ρ.length := by rcases cases2 with ⟨_, h, _⟩ | ⟨_, h, _⟩ <;> exact getS_lt h
  have other : ∀ j, j ≠ i → getS ρ2 j = getS ρ j := fun j hj => by
    rcases cases2 with ⟨_, _, h⟩ | ⟨_, _, h⟩ <;> (rw [h]; exact getS_set_ne (fun z => hj z.symm))
  have back : ∀ j b, Ow ρ2 σ j b → Ow ρ σ j b := fun j b ⟨sv, e1, m, q⟩ => by
    by_cases hj : j = i
    · subst hj; obtain ⟨sv', e2, m', _⟩ := ow; exact ⟨sv', e2, m', q⟩
    · rw [other j hj] at e1; exact ⟨sv, e1, m, q⟩
  have h0 : g.H0 a = none ∨ a ∈ g.B := by
    rcases cases2 with ⟨c0, h, _⟩ | ⟨c0, h, _⟩
    · obtain ⟨v, hv', b, eb, t⟩ := R.sl i _ h
      rw [hv] at hv'; cases hv'; cases eb; exact .inl t.2.1
    · obtain ⟨v, hv', b, eb, hp, t⟩ := R.sl i _ h
      rw [hv] at hv'; cases hv'; cases eb; exact .inr (R.fz.par _ _ hp)
  refine ⟨⟨fun b u q => ?_, R.fz.f0, R.fz.new, fun b u q hb => ?_, R.fz.par, fun b hb => ?_⟩, ?_, fun j sv q => ?_, fun p hp => ?_, fun j k b o1 o2 => R.inj j k b (back j b o1) (back k b o2), fun j b o1 => R.sep j b (back j b o1), R.nd⟩
  · rw [upd_ne (fun z : b = a => by rw [z, nF] at q; cases q)]; exact R.fz.sub b u q
  · have ne : b ≠ a := fun z => by
      subst z
      rcases h0 with h | h
      · rw [h] at q; cases q
      · exact hb h
    rw [upd_ne ne]; exact R.fz.keep b u q hb
  · obtain ⟨x, y, z⟩ := R.fz.bor b hb
    refine ⟨?_, y, z⟩
    by_cases e : b = a
    · subst e; exact ⟨o, upd_same⟩
    · rw [upd_ne e]; exact x
  · rcases cases2 with ⟨_, _, h⟩ | ⟨_, _, h⟩ <;> (rw [h]; simpa using R.len)
  · by_cases hj : j = i
    · subst hj
      rcases cases2 with ⟨c0, h, h2⟩ | ⟨c0, h, h2⟩
      · rw [h2, getS_set_self hi] at q; cases q
        obtain ⟨v, hv', b, eb, t⟩ := R.sl j _ h
        rw [hv] at hv'; cases hv'; cases eb
        exact ⟨_, hv, a, rfl, nF, t.2.1, at'⟩
      · rw [h2, getS_set_self hi] at q; cases q
        obtain ⟨v, hv', b, eb, hp, t⟩ := R.sl j _ h
        rw [hv] at hv'; cases hv'; cases eb
        exact ⟨_, hv, a, rfl, hp, at'⟩
    · rw [other j hj] at q
      obtain ⟨v, hv', z⟩ := R.sl j sv q
      refine ⟨v, hv', z.move (Sub.refl F) fun b eb m => ?_⟩
      subst eb
      have ow' : Ow ρ σ j b := ⟨sv, q, m, hv'⟩
      refine ⟨upd_ne (fun z => ?_), (R.ow ow').2⟩
      subst z
      exact hj (R.inj j i _ ow' ow)
  · have t := R.tm p hp
    have ne : p.1 ≠ a := fun z => R.sep i a ow (by rw [← z]; exact List.mem_map_of_mem (f := Prod.fst) hp)
    exact t.move (upd_ne ne) (Sub.refl F) t.1
end
/-- a rule that changes the list x: r is the layer's, f what it does -/
def MutOk (g : Bg) (keep : Bool) (f : D → List D → Option (RV × D)) (r : V → List V → Hp → VK → Prop) : Prop :=
  ∀ (H F : Hp) (a : Addr) (c : D) (ds : List D) (vs : List V) (p : RV × D) (Q : VK), Sub F H → At g.K g.mg H F c a → (if keep then Reps g.K g.mg F ds vs else Tops g H F ds vs) → f c ds = some p →
    (∀ v o, At g.K g.mg (upd H a o) F p.2 a → (∃ d, p.1 = .val d ∧ Rep g.K g.mg F d v) → Q v (upd H a o)) → r (.ref a) vs H Q
section
variable {X : Cx} {g : Bg} {W : WX} {e o : Expr} {es : List Expr} {ms : List ME} {name : Str} {apos cpos : Pos} {id : String} {r : V → List V → Hp → VK → Prop} {i : Nat} {f : D → List D → Option (RV × D)}
theorem rdMut {keep : Bool} {σ : St} {H : Hp} {Q : VK} (hk : keep = true → ∃ ns : List ME, ms = ns.map eKeep) (ok : MutOk g keep f r) (q : rdE g W (eMut i f ms) σ H Q) :
    ∃ v, σ[i]? = some (some v) ∧ tyV X.K "list" v H ∧ rdA g W ms σ H fun vs H1 => r v vs H1 Q := by
  obtain ⟨T, ρ, F, R, q⟩ := q
  simp only [eMut] at q
  cases e0 : getM ρ i with
  | none => simp only [e0, Option.bind_none, lift] at q
  | some c0 =>
    obtain ⟨a, hv, _, at0⟩ := R.own_at e0
    obtain ⟨xs0, hc0⟩ : ∃ xs0, c0 = .lst xs0 := by
      cases c0 with
      | lst xs => exact ⟨xs, rfl⟩
      | _ => simp only [e0, Option.bind_some, isLst, lift] at q
    subst hc0
    simp only [e0, Option.bind_some, isLst, lift] at q
    obtain ⟨us0, ha0, _, _⟩ := at0
    refine ⟨_, hv, .inl ⟨rfl, us0, SqL.of ha0⟩, T, ρ, F, R, ?_⟩
    cases e1 : evU ms ρ with
    | no => simp only [e1, RF.R.bind] at q
    | ex x ρ1 => simp only [e1, RF.R.bind] at q; exact q
    | ok os ρ1 =>
      simp only [e1, RF.R.bind] at q
      intro vs H1 F1 s1 z
      cases e2 : getOs ρ1 os with
      | none => simp only [e2] at q
      | some ds =>
        simp only [e2] at q
        cases e3 : getM ρ1 i with
        | none => simp only [e3] at q
        | some c =>
          simp only [e3] at q
          cases e4 : f c ds with
          | none => simp only [e4] at q
          | some p =>
            simp only [e4] at q
            cases e5 : putOut (.slot i) p.2 ρ1 with
            | none => simp only [e5] at q
            | some ρ2 =>
              simp only [e5] at q
              have R1 : Rl g T ρ1 σ H1 F1 := z.1.drops
              obtain ⟨a', hv', ow, at'⟩ := R1.own_at e3
              rw [hv] at hv'; cases hv'
              refine ok H1 F1 a c ds vs p Q R1.fz.sub at' ?_ e4 fun v o at2 ⟨d, ep, rp⟩ => ?_
              · cases keep with
                | true =>
                  obtain ⟨ns, rfl⟩ := hk rfl
                  exact evK_reps e1 z.2 e2
                | false => exact z.tops e2
              · have R2 := R1.write hv ow e5 at2
                rw [ep] at q
                exact q v _ F1 s1 ⟨R2, rp⟩
end
def appendM : D → List D → Option (RV × D)
  | .lst xs, [d] => if xs.length < cap then some (.val .non, .lst (xs ++ [d])) else none
  | _, _ => none
def extendM : D → List D → Option (RV × D)
  | .lst xs, [.lst ys] => if xs.length + ys.length ≤ cap then some (.val .non, .lst (xs ++ ys)) else none
  | .lst xs, [.tup ys] => if xs.length + ys.length ≤ cap then some (.val .non, .lst (xs ++ ys)) else none
  | _, _ => none
def popM : D → List D → Option (RV × D)
  | .lst xs, [] => match xs[xs.length - 1]? with
    | some d => some (.val d, .lst xs.dropLast)
    | none => none
  | _, _ => none
theorem Reps.dropLast {K : PySem.W.Frag} {mg : Mg} {F : Hp} {ds : List D} {vs : List V} (h : Reps K mg F ds vs) : Reps K mg F ds.dropLast vs.dropLast := by
  rw [List.dropLast_eq_take, List.dropLast_eq_take, h.len]
  exact h.take _
section
variable {X : Cx} {g : Bg}
theorem mok_append : MutOk g true appendM rAppend := fun H F a c ds vs p Q s at' r e k => by
  unfold appendM at e
  split at e
  · split at e
    · rename_i xs d hz
      cases e
      simp only [if_true, Reps] at r
      obtain ⟨v, vr, rfl, r1, rfl⟩ := r
      obtain ⟨us, ha, z, ru⟩ := at'
      have hz' : us.length < sizeLine := by rw [← ru.len]; exact Nat.lt_of_lt_of_le hz cap_line
      exact ⟨a, us, v, rfl, rfl, ha, hz', k .non _ ⟨us ++ [v], upd_same, by simp; omega, ru.append (Reps.cons r1 Reps.nil)⟩ ⟨.non, rfl, rep_non F⟩⟩
    · cases e
  · cases e
/-- xs.extend(ys), ys any list of the abstract heap -/
def rExtendR : V → List V → Hp → VK → Prop := fun x vs H Q => ∃ l b xs zs, x = .ref l ∧ vs = [.ref b] ∧ H l = some (.lst xs) ∧ SqR H b zs ∧ xs.length + zs.length ≤ sizeLine ∧ Q .non (upd H l (.lst (xs ++ zs)))
theorem mt_extendR : MtM X "list.extend" rExtendR := by
  intro pins s σ H x vs v us Q I rx rv h
  obtain ⟨l, b, xs, zs, rfl, rfl, hH, hB, hz, q⟩ := h
  cases rx
  obtain ⟨u, rfl, ru⟩ := rv.one
  cases ru
  obtain ⟨z, its, n, r, hl, e⟩ := I.lstM hH
  obtain ⟨z2, its2, n2, r2, e2⟩ := hB.ok I.hok
  have hl2 := r2.length
  have hsz : its.toArray.size + its2.toArray.size ≤ sizeLine := by rw [List.size_toArray, List.size_toArray]; omega
  have hlong : ¬ (!its.toArray.isEmpty && Builtin.List.listTooLong (its.toArray.size + its2.toArray.size)) = true := by
    rw [notLongL hsz, Bool.and_false]
    exact Bool.false_ne_true
  refine call_meets F.slot_list_extend ⟨_, e, rfl⟩ F.entry_list_extend (F.args_list_extend_2 _ _)
    (AutoSeq1.list_extend_list_list_0 l its.toArray n b its2.toArray n2 hlong (by rw [List.size_toArray]; omega) (by omega)) ⟨e, e2, ?_⟩
  refine ⟨.non, _, I.lset (its' := its ++ its2) hH e (by simp) (r.append r2) ?_, rfl, q⟩
  rw [List.length_append]
  omega
theorem list_ext_tup (l : Addr) (items : Array Value) (n : Nat) (b : Addr) (items2 : Array Value) (n2 : Nat) (dd : Option Addr) (sl : Array (Option Value)) (hs0 : ¬(!items.isEmpty && Builtin.List.listTooLong (items.size + items2.size)) = true) (hs1 : items.size ≤ sizeLine) (hs2 : items.size + items2.size ≤ sizeLine + 1) :
    Meets (Builtin.«list.extend» ⟨[.ref l, .ref b], []⟩) (fun _ R s => s.heap.get? l = some { cls := .type "list", dict := none, data := .seq items n, slots := #[] } ∧ s.heap.get? b = some { cls := .type "tuple", dict := dd, data := .seq items2 n2, slots := sl } ∧ R (.ok (.ret Value.none)) { s with heap := s.heap.update l (Obj.mapSeq fun x => x ++ items2), toks := s.toks }) :=
  .of_wp fun prog w A R s h => by
    obtain ⟨hp, g, d, tk, os⟩ := s; obtain ⟨hl, hb, h⟩ := h
    have f2 := PySem.F.sub_tuple_tuple; have f3 := PySem.F.sub_list_list; have f4 := PySem.F.sub_tuple_list; have f5 := PySem.F.sub_list_tuple
    have hz' : (items ++ items2).size ≤ sizeLine + 1 := by rw [Array.size_append]; exact hs2
    wp_walk using (wpAny_updateSeq hl rfl (hz := hs1) (_hz' := hz')), AutoSeq1.wpAny_loadPart' hl, AutoSeq1.wpAny_loadPart' hb
    exact ⟨_, rfl, h⟩
/-- xs.extend(t), t a tuple -/
def rExtendT (K : PySem.W.Frag) : V → List V → Hp → VK → Prop := fun x vs H Q => ∃ l b xs zs, x = .ref l ∧ vs = [.ref b] ∧ H l = some (.lst xs) ∧ SqT K H b zs ∧ xs.length + zs.length ≤ sizeLine ∧ Q .non (upd H l (.lst (xs ++ zs)))
theorem mt_extendT : MtM X "list.extend" (rExtendT X.K) := by
  intro pins s σ H x vs v us Q I rx rv h
  obtain ⟨l, b, xs, zs, rfl, rfl, hH, hB, hz, q⟩ := h
  cases rx
  obtain ⟨u, rfl, ru⟩ := rv.one
  cases ru
  obtain ⟨z, its, n, r, hl, e⟩ := I.lstM hH
  obtain ⟨its2, r2, ⟨⟨cls, dd, dt, sl⟩, e2, hc, n2, hd⟩, hz2⟩ := I.tuple hB
  simp only at hc hd
  subst hc
  subst hd
  have hl2 := r2.length
  have hsz : its.toArray.size + its2.toArray.size ≤ sizeLine := by rw [List.size_toArray, List.size_toArray]; omega
  have hlong : ¬ (!its.toArray.isEmpty && Builtin.List.listTooLong (its.toArray.size + its2.toArray.size)) = true := by
    rw [notLongL hsz, Bool.and_false]
    exact Bool.false_ne_true
  refine call_meets F.slot_list_extend ⟨_, e, rfl⟩ F.entry_list_extend (F.args_list_extend_2 _ _)
    (list_ext_tup l its.toArray n b its2.toArray n2 dd sl hlong (by rw [List.size_toArray]; omega) (by omega)) ⟨e, e2, ?_⟩
  refine ⟨.non, _, I.lset (its' := its ++ its2) hH e (by simp) (r.append r2) ?_, rfl, q⟩
  rw [List.length_append]
  omega
theorem MtM.or' {id : String} {r r' : V → List V → Hp → VK → Prop} (h : MtM X id r) (h' : MtM X id r') : MtM X id (fun x xs H Q => r x xs H Q ∨ r' x xs H Q) := by
  intro pins s σ H x xs v us Q I rx rs q
  rcases q with q | q
  · exact h pins s σ H x xs v us Q I rx rs q
  · exact h' pins s σ H x xs v us Q I rx rs q
theorem mok_extend (hK : X.K = g.K) : MutOk g false extendM (fun x xs H Q => rExtendR x xs H Q ∨ rExtendT X.K x xs H Q) := fun H F a c ds vs p Q s at' r e k => by
  unfold extendM at e
  split at e
  · split at e
    · rename_i xs ys hz
      cases e
      obtain ⟨v, rfl, t1⟩ := Tops.one (g := g) r
      simp only [Top] at t1
      obtain ⟨b, ws, rfl, q, _, rw'⟩ := t1
      obtain ⟨us, ha, z, ru⟩ := at'
      have hz' : us.length + ws.length ≤ sizeLine := by rw [← ru.len, ← rw'.len]; exact Nat.le_trans hz cap_line
      exact .inl ⟨a, b, us, ws, rfl, rfl, ha, q, hz', k .non _ ⟨us ++ ws, upd_same, by simp; omega, ru.append rw'⟩ ⟨.non, rfl, rep_non F⟩⟩
    · cases e
  · split at e
    · rename_i xs ys hz
      cases e
      obtain ⟨v, rfl, t1⟩ := Tops.one (g := g) r
      simp only [Top, Rep] at t1
      obtain ⟨b, ws, rfl, q, _, rw'⟩ := t1
      obtain ⟨us, ha, z, ru⟩ := at'
      have hz' : us.length + ws.length ≤ sizeLine := by rw [← ru.len, ← rw'.len]; exact Nat.le_trans hz cap_line
      exact .inr ⟨a, b, us, ws, rfl, rfl, ha, by rw [hK]; exact s.sqT q.t, hz', k .non _ ⟨us ++ ws, upd_same, by simp; omega, ru.append rw'⟩ ⟨.non, rfl, rep_non F⟩⟩
    · cases e
  · cases e
theorem mok_pop : MutOk g true popM rPop := fun H F a c ds vs p Q s at' r e k => by
  unfold popM at e
  split at e
  · rename_i xs
    cases q : xs[xs.length - 1]? with
    | none => rw [q] at e; cases e
    | some d =>
      rw [q] at e; cases e
      simp only [if_true, Reps] at r
      subst r
      obtain ⟨us, ha, z, ru⟩ := at'
      obtain ⟨v, hv, rv⟩ := ru.get q
      rw [ru.len] at hv
      exact ⟨a, us, v, rfl, rfl, ha, hv, k v _ ⟨us.dropLast, upd_same, by rw [List.length_dropLast]; omega, ru.dropLast⟩ ⟨d, rfl, rv⟩⟩
  · cases e
end
end RF
end
section
/-! R12: methods of lists and texts, stores into lists, isinstance, names of the module, a, b = x, y. -/
namespace RF
open PySem L2

theorem few_ok {e : Expr} {es : List Expr} {env : PySem.Env} {cpos : Pos} (hs : (e :: es).all notStar = true) (hl : decide ((e :: es).length < 30) = true) :
    ((backTo cpos (starEach (e :: es) env)).all (fun x => !x.1) && (backToKw cpos (keywordEach [] env)).all (fun x => x.1.isSome)
      && decide ((e :: es).length + ([] : List Keyword).length + (if ([] : List Keyword).isEmpty then 0 else 1) < 30)) = true := by
  have h1 : (backTo cpos (starEach (e :: es) env)).any (·.1) = false := star_any cpos hs
  have h2 : (backTo cpos (starEach (e :: es) env)).all (fun x => !x.1) = true := by
    rw [List.all_eq_not_any_not]
    simp only [Bool.not_not]
    rw [h1]; rfl
  rw [h2]
  simp only [List.length_cons, List.length_nil, List.isEmpty_nil, if_true, Nat.add_zero, Bool.true_and, Bool.and_eq_true]
  exact ⟨rfl, hl⟩

section
variable {X : Cx} {g : Bg} {W : WX} {e o : Expr} {es : List Expr} {ms : List ME} {name : Str} {apos cpos : Pos} {id : String} {r : V → List V → Hp → VK → Prop} {i : Nat} {f : D → List D → Option (RV × D)}
/-- x.m(e, ..): the list in slot i is changed -/
theorem SE.mut {keep : Bool} (slot : Slot "list" name id) (hty : typeOf (.builtin id) = pure (.type "method_descriptor")) (hm : MtM X id r) (ho : PE X o (tVar i)) (ha : SA X g W (e :: es) ms)
    (hk : keep = true → ∃ ns : List ME, ms = ns.map eKeep) (ok : MutOk g keep f r) (hb : attributeBase o name X.env (eval o X.env) = eval o X.env) (hline : (apos.endLine == cpos.line) = true) (hs : (e :: es).all notStar = true) (hl : decide ((e :: es).length < 30) = true) :
    SE X g W (.Call (.Attribute o name apos) (e :: es) [] cpos) (eMut i f ms) := by
  have hs' := hs
  simp only [List.all_cons, Bool.and_eq_true] at hs'
  exact PEimp (pe_bm (T := "list") F.plainAttrs_list slot hty (r := r) hm ho ha hb (few_ok hs hl) hline (star_ok hs'.1) (star_any cpos hs'.2)) fun σ H Q q => rdMut hk ok q
theorem SE.mut0 (slot : Slot "list" name id) (hty : typeOf (.builtin id) = pure (.type "method_descriptor")) (hm : MtM X id r) (ho : PE X o (tVar i))
    (ok : MutOk g true f r) (hb : attributeBase o name X.env (eval o X.env) = eval o X.env) (hline : (apos.endLine == cpos.line) = true) :
    SE X g W (.Call (.Attribute o name apos) [] [] cpos) (eMut i f []) :=
  PEimp (pe_bm0 (T := "list") F.plainAttrs_list slot hty (r := r) hm ho hb hline) fun σ H Q q => by
    obtain ⟨v, h1, h2, h3⟩ := rdMut (X := X) (ms := []) (fun _ => ⟨[], rfl⟩) ok q
    exact ⟨v, h1, h2, rdA_nil h3⟩
theorem SE.append (ho : PE X o (tVar i)) {m : ME} (ha : SE X g W e m) (hb : attributeBase o "append" X.env (eval o X.env) = eval o X.env) (hline : (apos.endLine == cpos.line) = true) (hs : notStar e = true) :
    SE X g W (.Call (.Attribute o "append" apos) [e] [] cpos) (eMut i appendM [eKeep m]) :=
  SE.mut (keep := true) F.slot_list_append F.type_list_append mt_append ho (SA.cons (SE.keep ha) SA.nil (star_ok hs)) (fun _ => ⟨[m], rfl⟩) mok_append hb hline (by simp [hs]) rfl
theorem SE.extend (hK : X.K = g.K) (ho : PE X o (tVar i)) {m : ME} (ha : SE X g W e m) (hb : attributeBase o "extend" X.env (eval o X.env) = eval o X.env) (hline : (apos.endLine == cpos.line) = true) (hs : notStar e = true) :
    SE X g W (.Call (.Attribute o "extend" apos) [e] [] cpos) (eMut i extendM [m]) :=
  SE.mut (keep := false) F.slot_list_extend F.type_list_extend (MtM.or' mt_extendR mt_extendT) ho (SA.cons ha SA.nil (star_ok hs)) (fun z => nomatch z) (mok_extend hK) hb hline (by simp [hs]) rfl
theorem SE.pop (ho : PE X o (tVar i)) (hb : attributeBase o "pop" X.env (eval o X.env) = eval o X.env) (hline : (apos.endLine == cpos.line) = true) :
    SE X g W (.Call (.Attribute o "pop" apos) [] [] cpos) (eMut i popM []) :=
  SE.mut0 F.slot_list_pop F.type_list_pop mt_pop ho mok_pop hb hline
end

theorem PSet.or {X : Cx} {t t' : TSet} (h : PSet X t) (h' : PSet X t') : PSet X (fun o i v H Q => t o i v H Q ∨ t' o i v H Q) := by
  intro pins s σ H o i v ov iv u Q I ro ri rv q
  rcases q with q | q
  · exact h pins s σ H o i v ov iv u Q I ro ri rv q
  · exact h' pins s σ H o i v ov iv u Q I ro ri rv q
/-! ### x[i] = e, x a list (or a dict) in slot i -/
def setAtD : D → D → D → Option D
  | .lst xs, .int z, d => (ixN xs.length z).map fun j => .lst (xs.set j d)
  | .dic ks vs, kd, d => putDic (.dic ks vs) kd d
  | _, _, _ => none
def sPutIx (i : Nat) (mi mv : ME) : MS := fun ρ => (eKeep mv ρ).bind fun o ρ1 => lift (asV o) fun d => lift (getM ρ1 i) fun _ => (mi ρ1).bind fun k ρ2 => lift (asV k) fun z => lift (getM ρ2 i) fun c => lift (setAtD c z d) fun c' =>
  lift (putOut (.slot i) c' ρ2) fun ρ3 => .ok .nx ρ3
section
variable {X : Cx} {g : Bg} {W : WX} {e o ie : Expr} {mi mv : ME} {pos p2 : Pos} {i : Nat}
theorem SS.putIx (hu : X.A.units + 1 < cLine) (hv : SE X g W e mv) (ho : PE X o (tVar i)) (hi : SE X g W ie mi) (hn : ∀ v, assign (.Subscript o ie p2) X.env v = (do
      let ov ← holding [v] (eval o X.env)
      let iv ← holding [v, ov] (eval ie X.env)
      standAt p2
      holding [v, ov, iv] (setItem ov iv v)
      release [v, ov, iv] [])) (hs : swapsWithSole [.Subscript o ie p2] e pos.line X.env = pure false) (hw : swappedStores [.Subscript o ie p2] e X.env = pure none)
    (h1 : (assignEach [.Subscript o ie p2] X.env).map (·.2) = [assign (.Subscript o ie p2) X.env]) : SS X g W (.Assign [.Subscript o ie p2] e pos) (sPutIx i mi mv) := by
  refine PSimp (ps_asg (SE.keep hv) (pg_sub ho hi (PSet.or set_list (set_dict hu)) hn) hs hw h1) fun E σ H q => ?_
  obtain ⟨T, ρ, F, R, q⟩ := q
  refine ⟨T, ρ, F, R, ?_⟩
  simp only [sPutIx] at q
  cases e1 : eKeep mv ρ with
  | no => simp only [e1, RF.R.bind, Pst] at q
  | ex x ρ1 => simp only [e1, RF.R.bind, Pst] at q; exact fun cls d H' F' s R x => q cls d σ H' F' s R x
  | ok ov ρ1 =>
    simp only [e1, RF.R.bind] at q
    obtain ⟨d, rfl⟩ := asV_keep e1
    simp only [asV, lift] at q
    intro v H1 F1 s1 ⟨R1, rd⟩
    cases e2 : getM ρ1 i with
    | none => simp only [e2, Pst] at q
    | some c0 =>
      simp only [e2] at q
      obtain ⟨a, hv', _, _⟩ := R1.own_at e2
      refine ⟨_, hv', T, ρ1, F1, R1, ?_⟩
      cases e3 : mi ρ1 with
      | no => simp only [e3, Pst] at q
      | ex x ρ2 => simp only [e3, Pst] at q; exact fun cls d H' F' s R x => q cls d σ H' F' (s1.trans s) R x
      | ok ok' ρ2 =>
        simp only [e3] at q
        intro w H2 F2 s2 r2
        cases ok' with
        | slot _ => simp only [Pst] at q
        | fresh _ => simp only [Pst] at q
        | val z =>
          simp only at q
          obtain ⟨R2, hz⟩ := r2
          cases e5 : getM ρ2 i with
          | none => simp only [e5, Pst] at q
          | some c =>
            simp only [e5] at q
            obtain ⟨a', hv2, ow, at2⟩ := R2.own_at e5
            rw [hv'] at hv2; cases hv2
            cases e6 : setAtD c z d with
            | none => simp only [e6, Pst] at q
            | some c' =>
              simp only [e6] at q
              cases e7 : putOut (.slot i) c' ρ2 with
              | none => simp only [e7, Pst] at q
              | some ρ3 =>
                simp only [e7, Pst] at q
                unfold setAtD at e6
                split at e6
                · rename_i xs z
                  simp only [Rep] at hz
                  subst hz
                  cases e8 : ixN xs.length z with
                  | none => rw [e8] at e6; cases e6
                  | some j =>
                    rw [e8] at e6; simp only [Option.map_some, Option.some.injEq] at e6; subst e6
                    obtain ⟨us, ha, hz, ru⟩ := at2
                    refine .inl ⟨a, us, z, j, rfl, rfl, ha, by rw [← ru.len]; exact e8, ?_⟩
                    refine q σ _ F2 (s1.trans s2) (R2.write hv' ow e7 ⟨us.set j v, upd_same, by rw [List.length_set]; exact hz, ru.set j (Rep.mono s2 _ _ rd)⟩)
                · rename_i ks ds
                  simp only [putDic] at e6
                  cases ek : keysD ks with
                  | none => rw [ek] at e6; cases e6
                  | some l =>
                    rw [ek] at e6
                    simp only at e6
                    cases ekd : keyD z with
                    | none => rw [ekd] at e6; cases e6
                    | some kk =>
                      rw [ekd] at e6
                      simp only at e6
                      split at e6
                      · rename_i hlt
                        cases e6
                        obtain ⟨rfl, e4'⟩ := key_rep ekd hz
                        obtain ⟨kvs, eH, el, at'⟩ := At.put hz e4' (Rep.mono s2 _ _ rd) at2 ek
                        have hcl := cap_line
                        exact .inr ⟨a, _, rfl, DPut.k eH (by omega), q σ _ F2 (s1.trans s2) (R2.write hv' ow e7 (at' _))⟩
                      · cases e6
                · cases e6
end

/-! ### methods of texts -/
def asS : OV → Option Str
  | .val (.str s) => some s
  | _ => none
theorem asS_some {o : OV} {s : Str} (h : asS o = some s) : o = .val (.str s) := by
  unfold asS at h
  split at h
  · cases h; rfl
  · cases h
def eMt (f : Str → List D → Option RV) (m : ME) (ms : List ME) : ME := fun ρ => (m ρ).bind fun o ρ1 => lift (asS o) fun z => (evU ms ρ1).bind fun os ρ2 => lift (getOs ρ2 os) fun ds => lift (f z ds) fun r => .ok r.ov ρ2
def OkM (g : Bg) (f : Str → List D → Option RV) (r : V → List V → Hp → VK → Prop) : Prop :=
  ∀ (T : List (Addr × D)) (ρ : Env) (σ : St) (H F : Hp) (z : Str) (ds : List D) (vs : List V) (rv : RV) (Q : VK), Rl g T ρ σ H F → z.length ≤ sizeLine → PyData.strOk z = true → Tops g H F ds vs → f z ds = some rv →
    (∀ v H' F', Sub F F' → Res g T rv.ov v ρ σ H' F' → Q v H') → r (.str z) vs H Q
section
variable {X : Cx} {g : Bg} {W : WX} {e o : Expr} {es : List Expr} {m : ME} {ms : List ME} {name : Str} {apos cpos : Pos} {id : String} {r : V → List V → Hp → VK → Prop} {f : Str → List D → Option RV}
theorem rdMt {σ : St} {H : Hp} {Q : VK} (ok : OkM g f r) (q : rdE g W (eMt f m ms) σ H Q) : rdE g W m σ H fun x H1 => tyV X.K "str" x H1 ∧ rdA g W ms σ H1 fun xs H2 => r x xs H2 Q := by
  obtain ⟨T, ρ, F, R, q⟩ := q
  refine ⟨T, ρ, F, R, ?_⟩
  simp only [eMt] at q
  cases e1 : m ρ with
  | no => simp only [e1, RF.R.bind] at q
  | ex x ρ1 => simp only [e1, RF.R.bind] at q; exact q
  | ok ov ρ1 =>
    simp only [e1, RF.R.bind] at q
    intro v H1 F1 s1 r1
    cases e2 : asS ov with
    | none => simp only [e2, lift] at q
    | some z =>
      have := asS_some e2
      subst this
      simp only [e2, lift] at q
      obtain ⟨R1, rz⟩ := r1
      simp only [Rep] at rz
      obtain ⟨rfl, hz, oz⟩ := rz
      refine ⟨rfl, T, ρ1, F1, R1, ?_⟩
      cases e3 : evU ms ρ1 with
      | no => simp only [e3] at q
      | ex x ρ2 => simp only [e3] at q; exact Xw.mono s1 q
      | ok os ρ2 =>
        simp only [e3] at q
        intro vs H2 F2 s2 r2
        cases e4 : getOs ρ2 os with
        | none => simp only [e4] at q
        | some ds =>
          simp only [e4] at q
          cases e5 : f z ds with
          | none => simp only [e5] at q
          | some rv =>
            simp only [e5] at q
            exact ok T ρ2 σ H2 F2 z ds vs rv Q r2.1.drops hz oz (r2.tops e4) e5 fun v H' F' s' r => q v H' F' ((s1.trans s2).trans s') r
theorem SE.mt (slot : Slot "str" name id) (hty : typeOf (.builtin id) = pure (.type "method_descriptor")) (hm : MtR X id r) (ok : OkM g f r) (ho : SE X g W o m) (ha : SA X g W (e :: es) ms)
    (hb : attributeBase o name X.env (eval o X.env) = eval o X.env) (hline : (apos.endLine == cpos.line) = true) (hs : (e :: es).all notStar = true) (hl : decide ((e :: es).length < 30) = true) :
    SE X g W (.Call (.Attribute o name apos) (e :: es) [] cpos) (eMt f m ms) := by
  have hs' := hs
  simp only [List.all_cons, Bool.and_eq_true] at hs'
  exact PEimp (pe_bm (T := "str") F.plainAttrs_str slot hty (r := r) hm ho ha hb (few_ok hs hl) hline (star_ok hs'.1) (star_any cpos hs'.2)) fun σ H Q q => rdMt ok q
theorem SE.mt0 (slot : Slot "str" name id) (hty : typeOf (.builtin id) = pure (.type "method_descriptor")) (hm : MtR X id r) (ok : OkM g f r) (ho : SE X g W o m)
    (hb : attributeBase o name X.env (eval o X.env) = eval o X.env) (hline : (apos.endLine == cpos.line) = true) :
    SE X g W (.Call (.Attribute o name apos) [] [] cpos) (eMt f m []) :=
  PEimp (pe_bm0 (T := "str") F.plainAttrs_str slot hty (r := r) hm ho hb hline) fun σ H Q q => by
    obtain ⟨T, ρ, F, R, q⟩ := rdMt (X := X) ok q
    refine ⟨T, ρ, F, R, ?_⟩
    cases e1 : m ρ with
    | no => rw [e1] at q; exact q
    | ex x ρ1 => rw [e1] at q; exact q
    | ok ov ρ1 =>
      rw [e1] at q
      intro v H1 F1 s1 r1
      obtain ⟨h1, h2⟩ := q v H1 F1 s1 r1
      exact ⟨h1, rdA_nil h2⟩
end
/-- sep.join(a list or tuple of texts); the answer must be short -/
def joinM (z : Str) : List D → Option RV
  | [.lst xs] => (strsD xs).bind fun ys => if (ys.map (·.length)).sum + ys.length * z.length ≤ cap then some (.val (.str (Str.join z ys))) else none
  | [.tup xs] => (strsD xs).bind fun ys => if (ys.map (·.length)).sum + ys.length * z.length ≤ cap then some (.val (.str (Str.join z ys))) else none
  | _ => none
def upperM (z : Str) : List D → Option RV
  | [] => if z.length ≤ cap ∧ ∀ c ∈ z.cps.toList, c < 128 then some (.val (.str ⟨z.cps.map PyProof.Rows.up1⟩)) else none
  | _ => none
theorem strOk_app {x y : Str} (hx : PyData.strOk x = true) (hy : PyData.strOk y = true) : PyData.strOk (x ++ y) = true := by
  have e : (x ++ y).cps = x.cps ++ y.cps := rfl
  unfold PyData.strOk at hx hy ⊢
  rw [e, Array.all_append, hx, hy]; rfl
theorem strOk_join {z : Str} (hz : PyData.strOk z = true) : ∀ {ys : List Str}, (∀ b ∈ ys, PyData.strOk b = true) → PyData.strOk (Str.join z ys) = true
  | [], _ => by show PyData.strOk (Str.empty) = true; unfold PyData.strOk; rw [← Array.all_toList]; rfl
  | [x], h => h x (by simp)
  | x :: y :: r, h => strOk_app (strOk_app (h x (by simp)) hz) (strOk_join hz fun b hb => h b (List.mem_cons_of_mem _ hb))
section
variable {X : Cx} {g : Bg}
theorem okm_join (hK : X.K = g.K) : OkM g joinM (fun x xs H Q => ∃ a p, ∃ ys : List Str, x = .str a ∧ xs = [.ref p] ∧ (SqL X.K H p (ys.map V.str) ∨ SqT X.K H p (ys.map V.str)) ∧
    (ys.map (·.length)).sum + ys.length * a.length ≤ 16777216 ∧ Q (.str (Txt.join a ys)) H) := fun T ρ σ H F z ds vs rv Q R hz oz t e k => by
  have fin : ∀ {ys : List Str}, (∀ b ∈ ys, PyData.strOk b = true) → (ys.map (·.length)).sum + ys.length * z.length ≤ cap → Rep g.K g.mg F (.str (Str.join z ys)) (.str (Txt.join z ys)) := fun {ys} ho hc => by
    have hl := StrLaws.join_length_le z ys
    have hcap := cap_line
    simp only [Rep]
    exact ⟨congrArg V.str (StrLaws.glued_eq_join z ys), by omega, strOk_join oz ho⟩
  have h16 : cap ≤ 16777216 := by decide
  unfold joinM at e
  split at e
  · rename_i xs
    cases q : strsD xs with
    | none => rw [q] at e; cases e
    | some ys =>
      rw [q] at e
      simp only [Option.bind_some] at e
      split at e
      · rename_i hc
        cases e
        obtain ⟨v, rfl, t1⟩ := t.one
        simp only [Top] at t1
        obtain ⟨a, us, rfl, sq, _, r⟩ := t1
        obtain ⟨rfl, ho⟩ := strs_reps q r
        exact ⟨z, a, ys, rfl, rfl, .inl sq.l, by omega, k _ H F (Sub.refl F) ⟨R, fin ho hc⟩⟩
      · cases e
  · rename_i xs
    cases q : strsD xs with
    | none => rw [q] at e; cases e
    | some ys =>
      rw [q] at e
      simp only [Option.bind_some] at e
      split at e
      · rename_i hc
        cases e
        obtain ⟨v, rfl, t1⟩ := t.one
        simp only [Top, Rep] at t1
        obtain ⟨a, us, rfl, sq, _, r⟩ := t1
        obtain ⟨rfl, ho⟩ := strs_reps q r
        exact ⟨z, a, ys, rfl, rfl, .inr (by rw [hK]; exact R.fz.sub.sqT sq.t), by omega, k _ H F (Sub.refl F) ⟨R, fin ho hc⟩⟩
      · cases e
  · cases e
theorem okm_upper : OkM g upperM (fun x xs H Q => ∃ a, x = .str a ∧ xs = [] ∧ a.length ≤ 5592405 ∧ Q (.str (Txt.upper a)) H) := fun T ρ σ H F z ds vs rv Q R hz oz t e k => by
  unfold upperM at e
  split at e
  · split at e
    · rename_i hc
      cases e
      have : vs = [] := t
      subst this
      have h16 : cap ≤ 5592405 := by decide
      refine ⟨z, rfl, rfl, by omega, k _ H F (Sub.refl F) ⟨R, ?_⟩⟩
      rw [PyProof.Rows.upper_ascii hc.2]
      simp only [Rep]
      refine ⟨trivial, ?_, ?_⟩
      · show (z.cps.map _).size ≤ _
        rw [Array.size_map]; exact hz
      · unfold PyData.strOk
        rw [← Array.all_toList, List.all_eq_true]
        intro c hc'
        rw [Array.toList_map, List.mem_map] at hc'
        obtain ⟨c0, h0, rfl⟩ := hc'
        have := hc.2 c0 h0
        refine decide_eq_true ?_
        unfold PyProof.Rows.up1
        split <;> omega
    · cases e
  · cases e
variable {W : WX} {e o : Expr} {m ma : ME} {apos cpos : Pos}
theorem SE.join (hK : X.K = g.K) (ho : SE X g W o m) (ha : SE X g W e ma) (hb : attributeBase o "join" X.env (eval o X.env) = eval o X.env) (hline : (apos.endLine == cpos.line) = true) (hs : notStar e = true) :
    SE X g W (.Call (.Attribute o "join" apos) [e] [] cpos) (eMt joinM m [ma]) :=
  SE.mt F.slot_str_join F.type_str_join mt_join (okm_join hK) ho (SA.cons ha SA.nil (star_ok hs)) hb hline (by simp [hs]) rfl
theorem SE.upper (ho : SE X g W o m) (hb : attributeBase o "upper" X.env (eval o X.env) = eval o X.env) (hline : (apos.endLine == cpos.line) = true) :
    SE X g W (.Call (.Attribute o "upper" apos) [] [] cpos) (eMt upperM m []) :=
  SE.mt0 F.slot_str_upper F.type_str_upper mt_upper okm_upper ho hb hline
end

/-! ### a, b = x, y -/
def noSlot : List OV → Bool
  | [] => true
  | .slot _ :: _ => false
  | _ :: os => noSlot os
def sParN (is : List Nat) (ms : List ME) : MS := fun ρ => (evU ms ρ).bind fun os ρ1 => match noSlot os with
  | true => lift (putSs is os ρ1) fun ρ2 => .ok .nx ρ2
  | false => .no
def setR (σ : St) : List Nat → List V → St
  | i :: is, v :: vs => (setR σ is vs).set i (some v)
  | _, _ => σ
section
variable {g : Bg} {H : Hp}
theorem putSs_ok : ∀ {is : List Nat} {os : List OV} {vs : List V} {T : List (Addr × D)} {ρ ρ2 : Env} {σ : St} {F : Hp}, noSlot os = true → Rl g (tmps os vs ++ T) ρ σ H F → OVs g σ F os vs → putSs is os ρ = some ρ2 → ∃ F', Sub F F' ∧ Rl g T ρ2 (setR σ is vs) H F'
  | [], [], vs, T, ρ, ρ2, σ, F, _, R, z, e => by
    simp only [putSs, Option.some.injEq] at e; subst e
    simp only [OVs] at z; subst z
    exact ⟨F, Sub.refl F, R⟩
  | i :: is, o :: os, vs, T, ρ, ρ2, σ, F, n, R, z, e => by
    obtain ⟨v, r, rfl, z1, z2⟩ := z
    simp only [putSs] at e
    cases e1 : putSs is os ρ with
    | none => rw [e1] at e; cases e
    | some ρ1 =>
      rw [e1] at e
      simp only at e
      have n' : noSlot os = true := by cases o <;> simp_all [noSlot]
      simp only [tmps] at R
      rw [List.append_assoc] at R
      obtain ⟨F1, s1, R1⟩ := putSs_ok n' R z2 e1
      have rs : Res g T o v ρ1 (setR σ is r) H F1 := by
        cases o with
        | val d => exact ⟨by simpa [tmp1] using R1, Rep.mono s1 d v z1⟩
        | slot k => simp [noSlot] at n
        | fresh c =>
          obtain ⟨a, rfl⟩ := z1
          exact ⟨a, rfl, by simpa [tmp1] using R1⟩
      obtain ⟨F2, s2, R2⟩ := rs.put e
      exact ⟨F2, s1.trans s2, R2⟩
  | [], _ :: _, _, _, _, _, _, _, _, _, _, e => by simp [putSs] at e
  | _ :: _, [], _, _, _, _, _, _, _, _, _, e => by simp [putSs] at e
variable {X : Cx} {W : WX}
theorem evU_len : ∀ {ms : List ME} {ρ ρ1 : Env} {os : List OV}, evU ms ρ = .ok os ρ1 → os.length = ms.length
  | [], ρ, ρ1, os, e => by simp only [evU] at e; cases e; rfl
  | m :: ms, ρ, ρ1, os, e => by
    simp only [evU] at e
    cases f1 : m ρ with
    | no => simp only [f1, RF.R.bind] at e; cases e
    | ex x ρ1 => simp only [f1, RF.R.bind] at e; cases e
    | ok o ρ3 =>
      simp only [f1, RF.R.bind] at e
      cases f2 : evU ms ρ3 with
      | no => simp only [f2] at e; cases e
      | ex x ρ1 => simp only [f2] at e; cases e
      | ok os' ρ4 =>
        simp only [f2] at e; cases e
        simp only [List.length_cons, evU_len f2]
theorem rdPar {is : List Nat} {ms : List ME} {E : Ends} {σ : St} (q : rdS g W (sParN is ms) E σ H) : rdA g W ms σ H fun vs H1 => vs.length = ms.length ∧ E.nx (setR σ is vs) H1 := by
  obtain ⟨T, ρ, F, R, q⟩ := q
  refine ⟨T, ρ, F, R, ?_⟩
  simp only [sParN] at q
  cases e1 : evU ms ρ with
  | no => simp only [e1, RF.R.bind, Pst] at q
  | ex x ρ1 => simp only [e1, RF.R.bind] at q; exact Pst.xw q
  | ok os ρ1 =>
    simp only [e1, RF.R.bind] at q
    intro vs H1 F1 s1 ⟨R1, z⟩
    cases e2 : noSlot os with
    | false => simp only [e2, Pst] at q
    | true =>
      simp only [e2] at q
      cases e3 : putSs is os ρ1 with
      | none => simp only [e3, lift, Pst] at q
      | some ρ2 =>
        simp only [e3, lift] at q
        obtain ⟨F2, s2, R2⟩ := putSs_ok e2 R1 z e3
        refine ⟨?_, q _ H1 F2 (s1.trans s2) R2⟩
        rw [OVs_len z]
        exact evU_len e1
variable {a b c : Expr} {ma mb mc : ME} {x y z : Str} {px py pz pt pt2 pos : Pos} {kt k2 : Nat} {i j l : Nat}
theorem SS.par2 (hc : X.calm = true) (hN : X.N.Nodup) (hi : X.N[i]? = some x) (hj : X.N[j]? = some y) (hij : i ≠ j) (hx : X.env.scope.names.lookup x = some .local) (hy : X.env.scope.names.lookup y = some .local)
    (ha : SE X g W a ma) (hb : SE X g W b mb) (sa : notStar a = true) (sb : notStar b = true)
    (hw : swappedStores [.Tuple [.Name x px, .Name y py] kt pt] (.Tuple [a, b] k2 pt2) X.env = pure (some [x, y]))
    (hs : swapsWithSole [.Tuple [.Name x px, .Name y py] kt pt] (.Tuple [a, b] k2 pt2) pos.line X.env = pure false) :
    SS X g W (.Assign [.Tuple [.Name x px, .Name y py] kt pt] (.Tuple [a, b] k2 pt2) pos) (sParN [i, j] [ma, mb]) := by
  refine PSimp (ps_par hc hN hi hj hij hx hy (SA.cons ha (SA.cons hb SA.nil (star_ok sb)) (star_ok sa)) hw hs) fun E σ H q => ?_
  obtain ⟨T, ρ, F, R, q⟩ := rdPar q
  refine ⟨T, ρ, F, R, ?_⟩
  cases e1 : evU [ma, mb] ρ with
  | no => simp only [e1] at q
  | ex x ρ1 => simp only [e1] at q; exact q
  | ok os ρ1 =>
    simp only [e1] at q
    intro vs H1 F1 s1 r1
    obtain ⟨hl, q⟩ := q vs H1 F1 s1 r1
    obtain ⟨v, w, rfl⟩ : ∃ v w, vs = [v, w] := by
      match vs, hl with
      | [v, w], _ => exact ⟨v, w, rfl⟩
    refine ⟨v, w, rfl, ?_⟩
    rw [List.set_comm _ _ hij]
    exact q
theorem SS.par3 (hc : X.calm = true) (hN : X.N.Nodup) (hi : X.N[i]? = some x) (hj : X.N[j]? = some y) (hl : X.N[l]? = some z) (hij : i ≠ j) (hil : i ≠ l) (hjl : j ≠ l)
    (hx : X.env.scope.names.lookup x = some .local) (hy : X.env.scope.names.lookup y = some .local) (hz : X.env.scope.names.lookup z = some .local)
    (ha : SE X g W a ma) (hb : SE X g W b mb) (hc' : SE X g W c mc) (sa : notStar a = true) (sb : notStar b = true) (sc : notStar c = true)
    (hw : swappedStores [.Tuple [.Name x px, .Name y py, .Name z pz] kt pt] (.Tuple [a, b, c] k2 pt2) X.env = pure (some [x, y, z]))
    (hs : swapsWithSole [.Tuple [.Name x px, .Name y py, .Name z pz] kt pt] (.Tuple [a, b, c] k2 pt2) pos.line X.env = pure false) :
    SS X g W (.Assign [.Tuple [.Name x px, .Name y py, .Name z pz] kt pt] (.Tuple [a, b, c] k2 pt2) pos) (sParN [i, j, l] [ma, mb, mc]) := by
  refine PSimp (ps_par3 hc hN hi hj hl hij hil hjl hx hy hz (SA.cons ha (SA.cons hb (SA.cons hc' SA.nil (star_ok sc)) (star_ok sb)) (star_ok sa)) hw hs) fun E σ H q => ?_
  obtain ⟨T, ρ, F, R, q⟩ := rdPar q
  refine ⟨T, ρ, F, R, ?_⟩
  cases e1 : evU [ma, mb, mc] ρ with
  | no => simp only [e1] at q
  | ex x ρ1 => simp only [e1] at q; exact q
  | ok os ρ1 =>
    simp only [e1] at q
    intro vs H1 F1 s1 r1
    obtain ⟨hl, q⟩ := q vs H1 F1 s1 r1
    obtain ⟨u, v, w, rfl⟩ : ∃ u v w, vs = [u, v, w] := by
      match vs, hl with
      | [u, v, w], _ => exact ⟨u, v, w, rfl⟩
    refine ⟨u, v, w, rfl, ?_⟩
    rw [List.set_comm _ _ hij, List.set_comm _ _ hil, List.set_comm _ _ hjl]
    exact q
end
/-! ### x.index(y), x a list or a tuple of texts -/
def idx1 (z : Str) : List Str → Option Nat
  | [] => none
  | y :: ys => if y = z then some 0 else (idx1 z ys).map (· + 1)
theorem idx1_some {z : Str} : ∀ {ys : List Str} {j : Nat}, idx1 z ys = some j → ys[j]? = some z ∧ ∀ m, m < j → ys[m]? ≠ some z
  | [], j, h => by cases h
  | y :: ys, j, h => by
    unfold idx1 at h
    split at h
    · rename_i e; cases h; exact ⟨by simp [e], fun m hm => by omega⟩
    · rename_i e
      cases q : idx1 z ys with
      | none => rw [q] at h; cases h
      | some i =>
        rw [q] at h; simp only [Option.map_some, Option.some.injEq] at h; subst h
        obtain ⟨h1, h2⟩ := idx1_some q
        refine ⟨by simpa using h1, fun m hm => ?_⟩
        cases m with
        | zero => simpa using e
        | succ m => simpa using h2 m (by omega)
def idxL : List D → Option RV
  | [.lst xs, .str z] => (strsD xs).bind fun ys => (idx1 z ys).map fun j => .val (.int (j : Nat))
  | _ => none
def idxT : List D → Option RV
  | [.tup xs, .str z] => (strsD xs).bind fun ys => (idx1 z ys).map fun j => .val (.int (j : Nat))
  | _ => none
def pickQ (fl ft : List D → Option RV) : D → Option (List D → Option RV)
  | .lst _ => some fl
  | .tup _ => some ft
  | _ => none
/-- a method of a list or a tuple that reads alone -/
def eSq (fl ft : List D → Option RV) (m : ME) (ms : List ME) : ME := fun ρ => (m ρ).bind fun o ρ1 => lift ((getO ρ1 o).bind (pickQ fl ft)) fun f => (evU ms ρ1).bind fun os ρ2 => lift (getOs ρ2 (o :: os)) fun ds => lift (f ds) fun r => .ok r.ov ρ2
def hdL (r : V → List V → Hp → VK → Prop) : List V → Hp → VK → Prop := fun xs H Q => match xs with
  | x :: xs => r x xs H Q
  | [] => False
theorem PEor {X : Cx} {e : Expr} {t t' : TE} (h : PE X e t) (h' : PE X e t') : PE X e (fun σ H Q => t σ H Q ∨ t' σ H Q) :=
  ⟨fun pins s σ H Q I q => q.elim (fun q => h.run pins s σ H Q I q) fun q => h'.run pins s σ H Q I q⟩
/-- the value is a tuple without a dict -/
def tyN (K : PySem.W.Frag) (x : V) (H : Hp) : Prop := ∃ a xs, x = .ref a ∧ SqN K H a xs
def tBMN (K : PySem.W.Frag) (r : V → List V → Hp → VK → Prop) (to : TE) (t : TA) : TE := fun σ H Q => to σ H fun x H1 => tyN K x H1 ∧ t σ H1 fun xs H2 => r x xs H2 Q
section
variable {X : Cx} {g : Bg} {W : WX} {e o : Expr} {es : List Expr} {m : ME} {ms : List ME} {name : Str} {apos cpos : Pos} {id idt : String} {r rt : V → List V → Hp → VK → Prop} {fl ft : List D → Option RV}
theorem tyN_is {pins : List (Addr × Obj)} {σ : St} {H : Hp} {s : Shared} {x : V} {v : Value} (I : L2.Inv X pins σ H s) (rv : RelV x v) (ty : tyN X.K x H) : s.TypeIs v "tuple" ∧ ∀ a, v = .ref a → ∃ ob, s.heap.get? a = some ob ∧ ob.dict = none := by
  obtain ⟨a, xs, rfl, sq⟩ := ty
  cases rv
  rcases sq with ⟨ob, h, hd⟩ | ⟨ob, its, n, h, hd, hc, _⟩
  · obtain ⟨h1, _, _, _, ob', h2, hc, _⟩ := I.hok a _ h
    rw [h1] at h2; cases h2
    exact ⟨⟨ob, h1, hc⟩, fun b e => by cases e; exact ⟨ob, h1, hd⟩⟩
  · have h1 := I.kIn a ob h
    exact ⟨⟨ob, h1, hc⟩, fun b e => by cases e; exact ⟨ob, h1, hd⟩⟩
theorem pe_bmN {to : TE} {t : TA} (slot : Slot "tuple" name id) (hty : typeOf (.builtin id) = pure (.type "method_descriptor")) (hm : MtR X id r) (ho : PE X o to) (ha : PA X (e :: es) t)
    (hb : attributeBase o name X.env (eval o X.env) = eval o X.env) (hs : (e :: es).all notStar = true) (hl : decide ((e :: es).length < 30) = true) (hline : (apos.endLine == cpos.line) = true) :
    PE X (.Call (.Attribute o name apos) (e :: es) [] cpos) (tBMN X.K r to t) := by
  have hs' := hs
  simp only [List.all_cons, Bool.and_eq_true] at hs'
  refine ⟨fun pins s σ H Q I h => wpAny_Call_method_late hb (few_ok hs hl) hline rfl (thn (ho.run pins s σ H _ I h) fun v s1 ⟨x, H1, I1, r1, ty, q1⟩ => ?_)⟩
  obtain ⟨h1, h2⟩ := tyN_is I1 r1 ty
  refine ⟨"tuple", id, F.plainAttrs_tuple, slot, hty, h1, h2, ?_⟩
  have hA := ha.run cpos pins s1 σ H1 _ I1 q1
  have hst := star_ok (es := es) (env := X.env) hs'.1
  rw [hst] at hA ⊢
  refine Calls.callWith_builtin (show (false || (backTo cpos (starEach es X.env)).any (·.1)) = false by rw [star_any cpos hs'.2]; rfl) (Calls.evalArgs_plain (thn hA fun us s2 ⟨vs, H2, I2, r2, q2⟩ => ?_))
  exact hm pins s2 σ H2 x vs v us Q I2 r1 r2 q2
theorem Res.consL {T : List (Addr × D)} {ρ1 : Env} {σ : St} {H1 F1 : Hp} {o : OV} {v : V} (r1 : Res g T o v ρ1 σ H1 F1) :
    ∃ T1, Rl g T1 ρ1 σ H1 F1 ∧ ∀ os vs ρ2 H2 F2, Sub F1 F2 → ResL g T1 os vs ρ2 σ H2 F2 → ResL g T (o :: os) (v :: vs) ρ2 σ H2 F2 := by
  cases o with
  | val d =>
    refine ⟨T, r1.1, fun os vs ρ2 H2 F2 s2 ⟨R2, z⟩ => ⟨?_, v, vs, rfl, Rep.mono s2 d v r1.2, z⟩⟩
    simpa [tmps, tmp1] using R2
  | slot i =>
    refine ⟨T, r1.1, fun os vs ρ2 H2 F2 s2 ⟨R2, z⟩ => ⟨?_, v, vs, rfl, r1.2, z⟩⟩
    simpa [tmps, tmp1] using R2
  | fresh c =>
    obtain ⟨a, rfl, R1⟩ := r1
    refine ⟨(a, c) :: T, R1, fun os vs ρ2 H2 F2 s2 ⟨R2, z⟩ => ⟨?_, .ref a, vs, rfl, ⟨a, rfl⟩, z⟩⟩
    simp only [tmps, tmp1]
    rw [List.append_assoc]; exact R2
theorem rdSq {σ : St} {H : Hp} {Q : VK} (hK : X.K = g.K) (okl : OkL g fl (hdL r)) (okt : OkL g ft (hdL rt)) (q : rdE g W (eSq fl ft m ms) σ H Q) :
    tBM X.K "list" r (rdE g W m) (rdA g W ms) σ H Q ∨ tBMN X.K rt (rdE g W m) (rdA g W ms) σ H Q := by
  obtain ⟨T, ρ, F, R, q⟩ := q
  simp only [eSq] at q
  cases e1 : m ρ with
  | no => simp only [e1, RF.R.bind] at q
  | ex x ρ1 => simp only [e1, RF.R.bind] at q; exact .inl ⟨T, ρ, F, R, by rw [e1]; exact q⟩
  | ok ov ρ1 =>
    simp only [e1, RF.R.bind] at q
    cases e2 : getO ρ1 ov with
    | none => simp only [e2, Option.bind_none, lift] at q
    | some d1 =>
      simp only [e2, Option.bind_some, lift] at q
      have go : ∀ {f : List D → Option RV} {r' : V → List V → Hp → VK → Prop} {v : V} {H1 F1 : Hp}, OkL g f (hdL r') → pickQ fl ft d1 = some f → Sub F F1 → Res g T ov v ρ1 σ H1 F1 → rdA g W ms σ H1 fun xs H2 => r' v xs H2 Q := fun {f r' v H1 F1} ok ef s1 r1 => by
        simp only [ef] at q
        obtain ⟨T1, R1, fc⟩ := r1.consL
        refine ⟨T1, ρ1, F1, R1, ?_⟩
        cases e3 : evU ms ρ1 with
        | no => simp only [e3] at q
        | ex x ρ2 => simp only [e3] at q; exact Xw.mono s1 q
        | ok os ρ2 =>
          simp only [e3] at q
          intro vs H2 F2 s2 r2
          have r3 := fc os vs ρ2 H2 F2 s2 r2
          cases e4 : getOs ρ2 (ov :: os) with
          | none => simp only [e4] at q
          | some ds =>
            simp only [e4] at q
            cases e5 : f ds with
            | none => simp only [e5] at q
            | some rv =>
              simp only [e5] at q
              exact ok T ρ2 σ H2 F2 ds (v :: vs) rv Q r3.1.drops (r3.tops e4) e5 fun v' H' F' s' r => q v' H' F' ((s1.trans s2).trans s') r
      cases d1 with
      | lst xs =>
        refine .inl ⟨T, ρ, F, R, ?_⟩
        rw [e1]
        intro v H1 F1 s1 r1
        have tp := r1.top e2
        simp only [Top] at tp
        obtain ⟨a, us, rfl, sq, _, _⟩ := tp
        exact ⟨.inl ⟨rfl, us, sq.l⟩, go okl rfl s1 r1⟩
      | tup xs =>
        refine .inr ⟨T, ρ, F, R, ?_⟩
        rw [e1]
        intro v H1 F1 s1 r1
        have tp := r1.top e2
        simp only [Top, Rep] at tp
        obtain ⟨a, us, rfl, sq, _, _⟩ := tp
        refine ⟨⟨a, us, rfl, ?_⟩, go okt rfl s1 r1⟩
        rw [hK]; exact r1.rl.fz.sub.sqN sq
      | _ => simp only [pickQ] at q
theorem SE.sq (hK : X.K = g.K) (slot : Slot "list" name id) (hty : typeOf (.builtin id) = pure (.type "method_descriptor")) (hm : MtR X id r) (okl : OkL g fl (hdL r))
    (slott : Slot "tuple" name idt) (htyt : typeOf (.builtin idt) = pure (.type "method_descriptor")) (hmt : MtR X idt rt) (okt : OkL g ft (hdL rt)) (ho : SE X g W o m) (ha : SA X g W (e :: es) ms)
    (hb : attributeBase o name X.env (eval o X.env) = eval o X.env) (hline : (apos.endLine == cpos.line) = true) (hs : (e :: es).all notStar = true) (hl : decide ((e :: es).length < 30) = true) :
    SE X g W (.Call (.Attribute o name apos) (e :: es) [] cpos) (eSq fl ft m ms) := by
  have hs' := hs
  simp only [List.all_cons, Bool.and_eq_true] at hs'
  exact PEimp (PEor (pe_bm (T := "list") F.plainAttrs_list slot hty (r := r) hm ho ha hb (few_ok hs hl) hline (star_ok hs'.1) (star_any cpos hs'.2)) (pe_bmN slott htyt hmt ho ha hb hs hl hline)) fun σ H Q q => rdSq hK okl okt q
theorem okl_idx (hK : X.K = g.K) : OkL g idxL (hdL (rIndex X.K)) := fun T ρ σ H F ds vs rv Q R t e k => by
  unfold idxL at e
  split at e
  · rename_i xs z
    cases e1 : strsD xs with
    | none => rw [e1] at e; cases e
    | some ys =>
      rw [e1] at e; simp only [Option.bind_some] at e
      cases e2 : idx1 z ys with
      | none => rw [e2] at e; cases e
      | some j =>
        rw [e2] at e; simp only [Option.map_some, Option.some.injEq] at e; subst e
        obtain ⟨x, y, rfl, t1, t2⟩ := t.two
        simp only [Top] at t1; obtain ⟨a, us, rfl, sq, _, r⟩ := t1
        simp only [Top, Rep] at t2; obtain ⟨rfl, _⟩ := t2
        obtain ⟨rfl, _⟩ := strs_reps e1 r
        obtain ⟨h1, h2⟩ := idx1_some e2
        refine ⟨a, _, .str z, j, .str z, rfl, rfl, sq.l, rfl, flat_strs ys, by rw [List.getElem?_map, h1]; rfl, by simp [eqV], fun m z' hm hz => ?_, k _ H F (Sub.refl F) ⟨R, rep_int F⟩⟩
        rw [List.getElem?_map] at hz
        cases e3 : ys[m]? with
        | none => rw [e3] at hz; cases hz
        | some w =>
          rw [e3] at hz; cases hz
          have : w ≠ z := fun e => h2 m hm (by rw [e3, e])
          simpa [eqV] using this
  · cases e
theorem okt_idx (hK : X.K = g.K) : OkL g idxT (hdL fun x xs H Q => ∃ p, ∃ ys : List Str, ∃ z j, x = .ref p ∧ xs = [.str z] ∧ SqT X.K H p (ys.map V.str) ∧ ys[j]? = some z ∧ (∀ m, m < j → ys[m]? ≠ some z) ∧ Q (.int (j : Nat)) H) := fun T ρ σ H F ds vs rv Q R t e k => by
  unfold idxT at e
  split at e
  · rename_i xs z
    cases e1 : strsD xs with
    | none => rw [e1] at e; cases e
    | some ys =>
      rw [e1] at e; simp only [Option.bind_some] at e
      cases e2 : idx1 z ys with
      | none => rw [e2] at e; cases e
      | some j =>
        rw [e2] at e; simp only [Option.map_some, Option.some.injEq] at e; subst e
        obtain ⟨x, y, rfl, t1, t2⟩ := t.two
        simp only [Top, Rep] at t1 t2; obtain ⟨a, us, rfl, sq, _, r⟩ := t1; obtain ⟨rfl, _⟩ := t2
        obtain ⟨rfl, _⟩ := strs_reps e1 r
        obtain ⟨h1, h2⟩ := idx1_some e2
        exact ⟨a, ys, z, j, rfl, rfl, by rw [hK]; exact R.fz.sub.sqT sq.t, h1, h2, k _ H F (Sub.refl F) ⟨R, rep_int F⟩⟩
  · cases e
theorem SE.index {ma : ME} (hK : X.K = g.K) (ho : SE X g W o m) (ha : SE X g W e ma) (hb : attributeBase o "index" X.env (eval o X.env) = eval o X.env) (hline : (apos.endLine == cpos.line) = true) (hs : notStar e = true) :
    SE X g W (.Call (.Attribute o "index" apos) [e] [] cpos) (eSq idxL idxT m [ma]) :=
  SE.sq hK F.slot_list_index F.type_list_index mt_index (okl_idx hK) F.slot_tuple_index F.type_tuple_index mt_tup_index (okt_idx hK) ho (SA.cons ha SA.nil (star_ok hs)) hb hline (by simp [hs]) rfl
end
end RF
end
section
/-! RCnt: list.count, tuple.count of plain data. -/
namespace RF
open PySem L2
theorem count_pd {a : D} (ha : plain a = true) : ∀ {ys : List D}, plains ys = true → (pds ys).countP (fun y => PyData.eqv y (pd a)) = ys.countP fun y => eqb y a
  | [], _ => rfl
  | y :: ys, h => by
    simp only [plains, Bool.and_eq_true] at h
    simp only [pds, List.countP_cons]
    rw [count_pd ha h.2, eqb_eqv y a h.1 ha]
def cntOk (xs : List D) (x : D) : Bool := plains xs && plain x && decide (min (deps xs) (dep x) ≤ 60)
def cntL : List D → Option RV
  | [.lst xs, x] => if cntOk xs x then some (.val (.int ((xs.countP fun y => eqb y x : Nat) : Int))) else none
  | _ => none
def cntT : List D → Option RV
  | [.tup xs, x] => if cntOk xs x then some (.val (.int ((xs.countP fun y => eqb y x : Nat) : Int))) else none
  | _ => none
def rCnt (K : PySem.W.Frag) (mk : List PyData → PyData) : V → List V → Hp → VK → Prop := fun x xs H Q => ∃ a ps p, xs = [a] ∧ Dp K H x (mk ps) ∧ Dp K H a p ∧ PyData.canLayAll0 ps = true ∧ p.canLay0 = true ∧ min (PyData.depthAll ps) p.depth ≤ 60 ∧ Q (.int ((ps.countP fun y => PyData.eqv y p : Nat) : Int)) H
section
variable {X : Cx} {g : Bg} {W : WX} {e o : Expr} {m : ME} {apos cpos : Pos}
theorem mt_cntL (hu : X.A.units + 64 < cLine) : MtR X "list.count" (rCnt X.K .list) := by
  intro pins s σ H x xs v us Q I rx rxs h
  obtain ⟨a, ps, p, rfl, hx, hp, c1, c2, hd, q⟩ := h
  obtain ⟨u, rfl, ru⟩ := rxs.one
  obtain ⟨as, r1⟩ := Dp.reads I _ x v hx rx
  obtain ⟨bs, r2⟩ := Dp.reads I p a u hp ru
  cases r1 with
  | list h1 h2 h3 h4 =>
    exact PySem.SeqAt.count_list_data ⟨_, h1, h2, _, h3⟩ h4 r2 (PyData.plainAll_of_canLay0 _ c1) (PyData.plain_of_canLay0 _ c2) (by omega) ⟨.int _, H, I.tok _, ⟨_, rfl⟩, q⟩
theorem mt_cntT (hu : X.A.units + 64 < cLine) : MtR X "tuple.count" (rCnt X.K .tuple) := by
  intro pins s σ H x xs v us Q I rx rxs h
  obtain ⟨a, ps, p, rfl, hx, hp, c1, c2, hd, q⟩ := h
  obtain ⟨u, rfl, ru⟩ := rxs.one
  obtain ⟨as, r1⟩ := Dp.reads I _ x v hx rx
  obtain ⟨bs, r2⟩ := Dp.reads I p a u hp ru
  cases r1 with
  | tuple h1 h2 h3 h4 =>
    exact PySem.SeqAt.count_tuple_data ⟨_, h1, h2, _, h3⟩ h4 r2 (PyData.plainAll_of_canLay0 _ c1) (PyData.plain_of_canLay0 _ c2) (by omega) ⟨.int _, H, I.tok _, ⟨_, rfl⟩, q⟩
theorem okl_cnt (hK : X.K = g.K) : OkL g cntL (hdL (rCnt X.K .list)) := fun T ρ σ H F ds vs rv Q R t e k => by
  unfold cntL at e
  split at e
  · rename_i ys a
    split at e
    · rename_i hc
      simp only [cntOk, Bool.and_eq_true, decide_eq_true_eq] at hc
      cases e
      obtain ⟨x, y, rfl, t1, t2⟩ := t.two
      obtain ⟨d2, c2⟩ := Top.dp (d := .lst ys) R.fz.sub (by simpa [plain] using hc.1.1) t1
      obtain ⟨d1, c1⟩ := Top.dp R.fz.sub hc.1.2 t2
      simp only [pd] at d2 c2
      refine ⟨y, pds ys, pd a, rfl, by rw [hK]; exact d2, by rw [hK]; exact d1, by simpa [PyData.canLay0] using c2, c1, by rw [dep_pd a hc.1.2, deps_pd ys hc.1.1]; omega, ?_⟩
      rw [count_pd hc.1.2 hc.1.1]
      exact k _ H F (Sub.refl F) ⟨R, rep_int F⟩
    · cases e
  · cases e
theorem okt_cnt (hK : X.K = g.K) : OkL g cntT (hdL (rCnt X.K .tuple)) := fun T ρ σ H F ds vs rv Q R t e k => by
  unfold cntT at e
  split at e
  · rename_i ys a
    split at e
    · rename_i hc
      simp only [cntOk, Bool.and_eq_true, decide_eq_true_eq] at hc
      cases e
      obtain ⟨x, y, rfl, t1, t2⟩ := t.two
      obtain ⟨d2, c2⟩ := Top.dp (d := .tup ys) R.fz.sub (by simpa [plain] using hc.1.1) t1
      obtain ⟨d1, c1⟩ := Top.dp R.fz.sub hc.1.2 t2
      simp only [pd] at d2 c2
      refine ⟨y, pds ys, pd a, rfl, by rw [hK]; exact d2, by rw [hK]; exact d1, by simpa [PyData.canLay0] using c2, c1, by rw [dep_pd a hc.1.2, deps_pd ys hc.1.1]; omega, ?_⟩
      rw [count_pd hc.1.2 hc.1.1]
      exact k _ H F (Sub.refl F) ⟨R, rep_int F⟩
    · cases e
  · cases e
theorem SE.count {ma : ME} (hK : X.K = g.K) (hu : X.A.units + 64 < cLine) (ho : SE X g W o m) (ha : SE X g W e ma) (hb : attributeBase o "count" X.env (eval o X.env) = eval o X.env) (hline : (apos.endLine == cpos.line) = true) (hs : notStar e = true) :
    SE X g W (.Call (.Attribute o "count" apos) [e] [] cpos) (eSq cntL cntT m [ma]) :=
  SE.sq hK F.slot_list_count F.type_list_count (mt_cntL hu) (okl_cnt hK) F.slot_tuple_count F.type_tuple_count (mt_cntT hu) (okt_cnt hK) ho (SA.cons ha SA.nil (star_ok hs)) hb hline (by simp [hs]) rfl
end
end RF
end
section
/-! RRev: x[::-1]. -/
namespace RF
open PySem PySem.Spec PyProof.Rows L2
section
variable {prog : Program} {w : World} {A : Around} {E : Value → Shared → Prop} {s : Shared}
theorem places_rev (n : Nat) : Builtin.Slice.slicePlaces ((n : Int) - 1) (-1) (-1) = n := by
  unfold Builtin.Slice.slicePlaces
  have h1 : ¬ ((-1 : Int) > 0) := by omega
  simp only [h1, if_false]
  have e1 : (- (-1 : Int)) = 1 := by omega
  rw [e1]
  simp only [Int.ediv_one]
  split <;> omega
theorem adjust_rev (n : Nat) : Builtin.Slice.sliceAdjust none none (-1) (n : Int) = ((n : Int) - 1, -1) := by
  unfold Builtin.Slice.sliceAdjust
  have h1 : ((-1 : Int) < 0) := by omega
  simp only [h1, if_true]
theorem sliceApplied_rev {sl : Addr} {vs : Value} {n : Nat} {Q : Int × Int × Nat → Shared → Prop} (hs : s.heap.IsSliceOf sl .none .none vs) (ps : IsPart vs (some (-1)))
    (h : Q ((n : Int) - 1, -1, n) s) : wpAny (model prog w) A (Builtin.Slice.sliceApplied (.ref sl) (pure (n : Int))) Q E s := by
  obtain ⟨os, hos, hcs, hds⟩ := id hs
  unfold Builtin.Slice.sliceApplied Builtin.Slice.sliceFields
  refine wpAny_bind (wpAny_bind (wpAny_field hos hds (x := .none) rfl (wpAny_bind (wpAny_field hos hds (x := .none) rfl (wpAny_bind (wpAny_field hos hds (x := vs) rfl (wpAny_pure ?_)))))))
  refine wpAny_bind (HT.slicePart_ ps ?_)
  show wpAny _ _ (if ((-1 : Int) == 0) = true then _ else _) _ _ s
  rw [if_neg (by decide)]
  refine wpAny_bind (HT.slicePart_ .none (wpAny_bind (HT.slicePart_ .none (wpAny_bind (wpAny_pure ?_)))))
  show wpAny _ _ (match Builtin.Slice.sliceAdjust none none (-1) (n : Int) with | (lo, hi) => pure (lo, (-1 : Int), Builtin.Slice.slicePlaces lo hi (-1))) _ _ s
  rw [adjust_rev]
  show wpAny _ _ (pure ((n : Int) - 1, (-1 : Int), Builtin.Slice.slicePlaces ((n : Int) - 1) (-1) (-1))) _ _ s
  rw [places_rev]
  exact wpAny_pure h
theorem pick_rev (xs : Array Value) : ((List.range xs.size).filterMap fun (m : Nat) => xs[(((xs.size : Nat) : Int) - 1 + (m : Int) * (-1)).toNat]?).toArray = xs.toList.reverse.toArray := by
  congr 1
  have e : ∀ l : List Nat, (∀ m ∈ l, m < xs.size) → (l.filterMap fun (m : Nat) => xs[(((xs.size : Nat) : Int) - 1 + (m : Int) * (-1)).toNat]?) = l.map fun m => xs.toList.reverse.getD m default := by
    intro l
    induction l with
    | nil => intro _; rfl
    | cons m l ih =>
      intro h
      have hm := h m List.mem_cons_self
      have e1 : xs[(((xs.size : Nat) : Int) - 1 + (m : Int) * (-1)).toNat]? = some (xs.toList.reverse.getD m default) := by
        rw [show (((xs.size : Nat) : Int) - 1 + (m : Int) * (-1)).toNat = xs.size - 1 - m by omega]
        have h2 : xs.size - 1 - m < xs.size := by omega
        rw [List.getD_eq_getElem?_getD, List.getElem?_reverse (by simpa using hm), Array.length_toList, Array.getElem?_toList, Array.getElem?_eq_getElem h2]
        rfl
      rw [List.filterMap_cons, e1]
      simp only [List.map_cons, ih fun m hm => h m (List.mem_cons_of_mem _ hm)]
  rw [e _ fun m hm => List.mem_range.mp hm]
  refine List.ext_getElem (by simp) fun i h1 h2 => ?_
  simp at h1 h2
  simp [h1]
theorem getItem_tuple_rev {t sl : Addr} {items : Array Value} {vs : Value} {Q : Value → Shared → Prop} (ht : IsTup s.heap t items) (hs : s.heap.IsSliceOf sl .none .none vs) (ps : IsPart vs (some (-1)))
    (h : Q (.ref s.heap.objs.size) { s with heap := s.heap.push { cls := .type "tuple", data := .seq items.toList.reverse.toArray } })
    (hsz : items.size ≤ sizeLine) : wpAny (model prog w) A (getItem (.ref t) (.ref sl)) Q E s := by
  have htake : sizeOk (.seq items.toList.reverse.toArray) := by
    show items.toList.reverse.toArray.size ≤ sizeLine
    rw [List.size_toArray, List.length_reverse, Array.length_toList]
    exact hsz
  obtain ⟨os, hos, hcs, hds⟩ := id hs
  have hTs : s.TypeIs (.ref sl) "slice" := ⟨os, hos, hcs⟩
  unfold getItem
  try with_reducible refine wpAny_holding ?_
  first | refine wpAny_bind (wpAny_pure ?_) | skip
  refine wpAny_bind (wpAny_sequenceKey ht.typeIs (by decide) ?_)
  refine wpAny_bind (wpAny_callSpecial?_slot (name := Str.ofString "__getitem__") ht.typeIs PyProof.Rows.slot_tuple_getitem
    (wpAny_call_entry PyProof.Rows.slot_tuple_getitem ht.typeIs entry_tuple_getitem ?_ (args_tuple_getitem _ _)))
  show wpAny _ _ (Builtin.Tuple.tupleItemsOf (.ref t) >>= _) _ _ s
  refine wpAny_bind (tupleItemsOf_ ht ?_)
  refine wpAny_bind (wpAny_typeOf hTs ?_)
  rw [if_pos (by decide)]
  refine wpAny_bind (sliceApplied_rev hs ps ?_)
  have hno : ¬ ((((items.size : Nat) : Int) - 1 == 0 && (-1 : Int) == 1 && items.size == items.size) = true) := by
    intro q
    rw [Bool.and_eq_true, Bool.and_eq_true] at q
    exact absurd q.1.2 (by decide)
  show wpAny _ _ (if (((items.size : Nat) : Int) - 1 == 0 && (-1 : Int) == 1 && items.size == items.size) = true then _ else _) _ _ s
  rw [if_neg hno, pick_rev]
  first
    | exact wpAny_bind (m := Builtin.Tuple.tupleExact _) (wpAny_newObj_type (wpAny_pure ⟨_, rfl, wpAny_pure h⟩) htake)
    | exact wpAny_bind (m := Builtin.Tuple.tupleExact _) (wpAny_newObj_type (wpAny_bind (wpAny_pure (wpAny_pure ⟨_, rfl, wpAny_pure h⟩))) htake)
    | exact wpAny_bind (wpAny_bind (m := Builtin.Tuple.tupleExact _) (wpAny_newObj_type (wpAny_pure (wpAny_pure ⟨_, rfl, wpAny_pure h⟩)) htake))
    | exact wpAny_bind (wpAny_bind (m := Builtin.Tuple.tupleExact _) (wpAny_newObj_type (wpAny_pure ⟨_, rfl, wpAny_pure h⟩) htake))
end
section
variable {X : Cx} {g : Bg} {W : WX}
def tRev (K : PySem.W.Frag) (te : TE) : TE := fun σ H Q => te σ H fun x H1 => ∃ a xs, x = .ref a ∧ ((SqL K H1 a xs ∧ ∀ p, H1 p = none → Q (.ref p) (upd H1 p (.lst xs.reverse))) ∨ (SqT K H1 a xs ∧ ∀ (p : Addr) (o : Obj), H1 p = none → o.dict = none → Q (.ref p) (upd H1 p (.frz o (.tup xs.reverse)))))
theorem pe_rev {e : Expr} {te : TE} {k : Nat} {p1 p2 p3 pos : Pos} (he : PE X e te) : PE X (.Subscript e (.Slice none none (some (.UnaryOp .USub (.Constant (.int 1) k p1) p2)) p3) pos) (tRev X.K te) := by
  refine ⟨fun pins s σ H Q I h => ?_⟩
  refine Subscript_ (thn (he.run pins s σ H _ I h) fun v s1 ⟨x, H1, I1, r1, q1⟩ => ?_)
  obtain ⟨a, xs, ex, hx⟩ := q1
  subst ex
  cases r1
  have hst : PO X (some (.UnaryOp .USub (.Constant (.int 1) k p1) p2)) (tPart (tUn (rU fun i => .int (-i)) (tC (.int 1)))) := po_some (pe_un un_neg pe_int)
  refine wpAny_Slice (thn (po_none.run pins s1 σ H1 (fun o H2 => o = none ∧ H2 = H1) I1 ⟨rfl, rfl⟩) fun vl s2 ⟨l, H2, I2, pl, el, e2⟩ => ?_)
  subst el e2
  refine thn (po_none.run pins s2 σ H2 (fun o H3 => o = none ∧ H3 = H2) I2 ⟨rfl, rfl⟩) fun vu s3 ⟨u, H3, I3, pu, eu, e3⟩ => ?_
  subst eu e3
  refine thn (hst.run pins s3 σ H3 (fun o H4 => o = some (-1) ∧ H4 = H3) I3 ⟨1, rfl, -1, rfl, rfl, rfl⟩) fun vs s4 ⟨o, H4, I4, ps, eo, e4⟩ => ?_
  subst eo e4
  have I5 : Inv X pins σ H4 { s4 with heap := s4.heap.push { cls := .type "slice", data := .fields #[vl, vu, vs] } } := I4.kept (t' := s4.toks) fun b ob q => Heap.get?_push_of_some _ q
  show wpAny (model X.prog X.w) X.A (subscriptTail e (.Slice none none (some (.UnaryOp .USub (.Constant (.int 1) k p1) p2)) p3) (.ref a) (.ref s4.heap.objs.size)) (EP X pins σ Q) X.xe { s4 with heap := s4.heap.push { cls := .type "slice", data := .fields #[vl, vu, vs] } }
  rcases hx with ⟨hx, q⟩ | ⟨hx, q⟩
  · obtain ⟨its, r, ht, hz⟩ := I5.list hx
    have hlen := r.length
    refine tail_any (ops := [.ref a, .ref s4.heap.objs.size]) ht.isList.typeIs (PySem.slot_list_getitem.lookup) ?_ (by with_unfolding_all rfl)
    refine wpAny_getItem_list_slice ht.isList (Heap.IsSliceOf.new _ vl vu vs) pl pu ps (by decide) ?_ (by rw [List.size_toArray]; omega)
    rw [PySem.W.krv_pick]
    refine ⟨.ref _, _, I5.laid (t' := s4.toks) (o := .lst xs.reverse) (fun b ob q => Heap.get?_push_of_some _ q) (Nat.le_refl _) ?_, rfl, q _ (I5.hok.fresh (Nat.le_refl _))⟩
    exact ⟨by rw [List.length_reverse]; exact hz, _, 0, r.reverse, Heap.get?_push_size _ rfl⟩
  · obtain ⟨its, r, ht, hz⟩ := I5.tuple hx
    have hlen := r.length
    cases pl
    cases pu
    refine tail_any (ops := [.ref a, .ref s4.heap.objs.size]) ht.typeIs (PyProof.Rows.slot_tuple_getitem.lookup) ?_ (by with_unfolding_all rfl)
    refine getItem_tuple_rev ht (Heap.IsSliceOf.new _ .none .none vs) ps ?_ (by rw [List.size_toArray]; omega)
    exact ⟨.ref _, _, I5.tnew r.reverse (by rw [List.length_reverse]; exact hz), rfl, q _ _ I5.fresh rfl⟩
def revD : List D → Option RV
  | [.lst xs] => some (.fresh (.lst xs.reverse))
  | [.tup xs] => some (.val (.tup xs.reverse))
  | _ => none
theorem Reps.reverse {K : PySem.W.Frag} {mg : Mg} {F : Hp} : ∀ {ds : List D} {vs : List V}, Reps K mg F ds vs → Reps K mg F ds.reverse vs.reverse
  | [], vs, h => by simp only [Reps] at h; subst h; exact Reps.nil
  | d :: ds, vs, h => by
    simp only [Reps] at h
    obtain ⟨v, r, rfl, h1, h2⟩ := h
    rw [List.reverse_cons, List.reverse_cons]
    exact (Reps.reverse h2).append (Reps.cons h1 Reps.nil)
theorem SE.rev {e : Expr} {m : ME} {k : Nat} {p1 p2 p3 pos : Pos} (hK : X.K = g.K) (he : SE X g W e m) : SE X g W (.Subscript e (.Slice none none (some (.UnaryOp .USub (.Constant (.int 1) k p1) p2)) p3) pos) (eOp revD [m]) :=
  PEimp (pe_rev he) fun σ H Q q => by
    obtain ⟨T, ρ, F, R, q⟩ := q
    refine ⟨T, ρ, F, R, ?_⟩
    simp only [eOp, evU] at q
    cases e1 : m ρ with
    | no => simp only [e1, RF.R.bind] at q
    | ex x ρ1 => simp only [e1, RF.R.bind] at q; exact q
    | ok o ρ1 =>
      simp only [e1, RF.R.bind] at q
      intro v H1 F1 s1 r1
      cases e2 : getO ρ1 o with
      | none => simp only [getOs, e2, lift] at q
      | some d =>
        simp only [getOs, e2, lift] at q
        have t := r1.top e2
        have R1 := r1.rl
        cases d with
        | lst xs =>
          simp only [revD] at q
          simp only [Top] at t
          obtain ⟨a, us, rfl, sq, z, r⟩ := t
          exact ⟨a, us, rfl, .inl ⟨sq.l, fun p hp => q _ _ F1 s1 (Res.newLst R1 r.reverse (by rw [List.length_reverse]; exact z) hp)⟩⟩
        | tup xs =>
          simp only [revD] at q
          simp only [Top, Rep] at t
          obtain ⟨a, us, rfl, sq, z, r⟩ := t
          refine ⟨a, us, rfl, .inr ⟨by rw [hK]; exact R1.fz.sub.sqT sq.t, fun p o hp hd => ?_⟩⟩
          obtain ⟨s, q2⟩ := Res.newTup R1 r.reverse (by rw [List.length_reverse]; exact z) hp hd
          exact q _ _ _ (s1.trans s) q2
        | _ => exact q.elim
end
end RF
end
section
/-! RFn: isinstance of a def (a function object). -/
namespace RF
open PySem L2

theorem fn_slot_ga : Slot "function" "__getattribute__" "object.__getattribute__" :=
  .of (owner := "object") (n := "__getattribute__") (by rw [typeLookup_type, builtinLookup_eq_fast]; kernel_rfl) (by decide +kernel) (by decide +kernel) (by decide +kernel)
    (by first | exact .inl (by decide +kernel) | exact .inr (by decide +kernel)) (by rw [isSubtype_type]; kernel_rfl)
theorem fn_lk_class : typeLookup (.type "function") "__class__" = pure (some (.builtin "object.__class__")) := by rw [typeLookup_type, builtinLookup_eq_fast]; kernel_rfl
theorem fn_sub_owner : isSubtype (.type "function") (.type (".".intercalate ("object.__class__".cutAt '.').dropLast)) = pure true := by
  rw [F.owner_object_class, isSubtype_type]; kernel_rfl
section
variable {prog : Program} {w : World} {A : Around} {E : Value → Shared → Prop} {h : Heap} {g : Array GenState} {d : Drawn} {t : Nat} {os : OsState} {a : Addr} {o : Obj}
theorem fn_get {R : Result → Shared → Prop} (hx : h.get? a = some o) (hc : o.cls = .type "function") (hq : R (.ok (.ret (.type "function"))) ⟨h, g, d, t, os⟩) :
    codeAny (model prog w) A (.call (.builtin "getset_descriptor.__get__") ⟨[.builtin "object.__class__", .ref a, .type "function"], []⟩) R ⟨h, g, d, t, os⟩ := by
  have hT : (⟨h, g, d, t, os⟩ : Shared).TypeIs (.ref a) "function" := ⟨_, hx, hc⟩
  have hT5 : (⟨h, g, d, t, os⟩ : Shared).TypeIs (.builtin "object.__class__") "getset_descriptor" := F.typeOf_object_class
  have f8 := fn_sub_owner
  refine codeAny_call_builtin F.slot_gs_get.plain F.entry_gs_get (F.slot_gs_get.check _ _ _ _ _ _ _ _ hT5 (F.args_gs_get _ _ _) ?_)
  repeat (any_goals (first | assumption | wp_step))
  refine ⟨Code.quiet_builtin _ (by decide +kernel), codeAny_builtin F.entry_object_class ?_⟩
  repeat (any_goals (first | assumption | wp_step))
theorem fn_entry {tk : Tok} {Q : Fin → Shared → Prop} (hx : h.get? a = some o) (hc : o.cls = .type "function") (hq : Q (.done (.ret (.type "function"))) ⟨h, g, d, t, os⟩) :
    wpAny (model prog w) A (Builtin.«object.__getattribute__» ⟨[.ref a, .str "__class__" tk], []⟩) Q E ⟨h, g, d, t, os⟩ := by
  have hT : (⟨h, g, d, t, os⟩ : Shared).TypeIs (.ref a) "function" := ⟨_, hx, hc⟩
  have hT5 : (⟨h, g, d, t, os⟩ : Shared).TypeIs (.builtin "object.__class__") "getset_descriptor" := F.typeOf_object_class
  have f4 := fn_lk_class
  have f5 := F.typeOf_object_class
  have f6 := F.slot_gs_get.lookup
  have f7 := F.slot_gs_set.lookup
  repeat (any_goals (first | assumption | wp_step))
  refine fn_get hx hc ?_
  repeat (any_goals (first | assumption | wp_step))
theorem fn_call {tk : Tok} {R : Result → Shared → Prop} (hx : h.get? a = some o) (hc : o.cls = .type "function") (hq : R (.ok (.ret (.type "function"))) ⟨h, g, d, t, os⟩) :
    codeAny (model prog w) A (.call (.builtin "object.__getattribute__") ⟨[.ref a, .str "__class__" tk], []⟩) R ⟨h, g, d, t, os⟩ :=
  codeAny_call_builtin fn_slot_ga.plain F.entry_object_getattribute (fn_slot_ga.check _ _ _ _ _ _ _ _ (show (⟨h, g, d, t, os⟩ : Shared).TypeIs (.ref a) "function" from ⟨_, hx, hc⟩) (F.args_object_getattribute_2 _ _) (fn_entry hx hc hq))
theorem fn_by {tk : Tok} {Q : Value → Shared → Prop} (hx : h.get? a = some o) (hc : o.cls = .type "function") (hq : Q (.type "function") ⟨h, g, d, t, os⟩) : wpAny (model prog w) A (getAttrBy (.ref a) (.str "__class__" tk) false) Q E ⟨h, g, d, t, os⟩ := by
  have hT : (⟨h, g, d, t, os⟩ : Shared).TypeIs (.ref a) "function" := ⟨_, hx, hc⟩
  have f2 := fn_slot_ga.lookup
  have f3 := fn_slot_ga.bind (.ref a)
  repeat (any_goals (first | assumption | wp_step))
  refine fn_call hx hc ?_
  repeat (any_goals (first | assumption | wp_step))
theorem fn_attr {Q : Option Value → Shared → Prop} (hx : h.get? a = some o) (hc : o.cls = .type "function") (hq : Q (some (.type "function")) ⟨h, g, d, t + 1, os⟩) : wpAny (model prog w) A (getAttr? (.ref a) "__class__") Q E ⟨h, g, d, t, os⟩ := by
  unfold getAttr? getAttrBy?
  repeat (any_goals (first | assumption | with_reducible apply fn_by hx hc | wp_step))
end
theorem kitx_fn {K : PySem.W.Frag} {a : Addr} : PySem.W.KitX K (.ref a) (.type "function") (PySem.W.KitAt a "function") :=
  PySem.W.kitx_of PySem.W.kitAt_ty (fun {_ _ _ _ _ s} p k => by obtain ⟨h, g, d, t, os⟩ := s; obtain ⟨o, h1, h2⟩ := p; exact fn_attr h1 h2 k)
end RF
end
section
/-! R13: what the module's names are; isinstance; attributes of own objects. -/
namespace RF
open PySem L2

/-- the built-in kinds that values have -/
def kNames : List String := ["NoneType", "bool", "int", "str", "tuple", "list", "dict", "function"]
/-- the built-in classes that are asked about -/
def cNames : List String := ["str", "int", "bool", "tuple", "list", "dict"]
def subT (a b : String) : Bool := a == b || (a == "bool" && b == "int")
theorem subT_kit : ∀ a ∈ kNames, ∀ b ∈ cNames, kitB a b = some (subT a b) := by decide +kernel
/-- a class of the module: what the heap's written part tells of it -/
structure ClsF (K : PySem.W.Frag) (mg : Mg) (cs : List Str) (c : Str) (C : Addr) : Prop where
  at_ : mg c = some (.ref C)
  cls : Cls K C
  ha : PySem.W.findIn K (.ref C) "__class__" = some (some (.builtin "object.__class__"))
  hn : PySem.W.specialIn K (.builtin "object.__class__") "__get__" = some (some (.builtin "getset_descriptor.__get__"))
  htk : PySem.W.takesIn K (.builtin "object.__class__") = some true
  hm : PySem.W.mroIn K C (.type "object") = some true
  sub : ∀ b ∈ cNames, PySem.W.kitOne K (.ref C) (.type b) = some false
  sup : ∀ a ∈ kNames, PySem.W.kitOne K (.type a) (.ref C) = some false
  own : ∀ c' ∈ cs, ∀ C', mg c' = some (.ref C') → PySem.W.kitOne K (.ref C) (.ref C') = some (c == c')
  nb : PySem.W.findIn K (.ref C) "__bool__" = some none
/-- what is known of the module: its classes and its defs -/
structure ModF (K : PySem.W.Frag) (mg : Mg) (cs fs : List Str) : Prop where
  cls : ∀ c ∈ cs, ∃ C, ClsF K mg cs c C
  fn : ∀ f ∈ fs, ∃ a o, mg f = some (.ref a) ∧ K.lookup a = some o ∧ o.cls = .type "function"
def kindD (cs fs : List Str) : D → Option (Sum String Str)
  | .non => some (.inl "NoneType")
  | .bl _ => some (.inl "bool")
  | .int _ => some (.inl "int")
  | .str _ => some (.inl "str")
  | .tup _ => some (.inl "tuple")
  | .lst _ => some (.inl "list")
  | .dic _ _ => some (.inl "dict")
  | .obj c _ _ => if c ∈ cs then some (.inr c) else none
  | .glo f => if f ∈ fs then some (.inl "function") else none
  | .ty _ => none
  | .set _ => none
  | .iset _ => none
def isiK (cs : List Str) : Sum String Str → D → Option Bool
  | .inl a, .ty n => if n ∈ cNames then some (subT a n) else none
  | .inl _, .glo c => if c ∈ cs then some false else none
  | .inr c, .glo c' => if c' ∈ cs then some (c == c') else none
  | .inr _, .ty n => if n ∈ cNames then some false else none
  | _, _ => none
def isiD (cs fs : List Str) : List D → Option RV
  | [d, t] => (kindD cs fs d).bind fun k => (isiK cs k t).map fun b => .val (.bl b)
  | _ => none
def rIsiF (K : PySem.W.Frag) : List V → Hp → VK → Prop := fun xs H Q => ∃ (f : Addr) (o : Obj) (c : V) (u : Value) (b : Bool), xs = [.ref f, c] ∧ ClsV c u ∧ K.lookup f = some o ∧ o.cls = .type "function" ∧ PySem.W.kitOne K (.type "function") u = some b ∧ Q (.bl b) H
section
variable {X : Cx} {g : Bg}
theorem call_isiF : CallR X (.builtin "isinstance") (rIsiF X.K) := by
  intro pins s σ H xs us Q I r h
  obtain ⟨f, o, c, u, b, rfl, k, lk, hc, e, q⟩ := h
  obtain ⟨u1, u2, rfl, r1, r2⟩ := Vals.two r
  have e2 := k.eq r2
  subst e2
  cases (show u1 = Value.ref f from r1)
  exact PySem.W.kia_one kitx_fn I.kIn ⟨o, I.kIn f o lk, hc⟩ e (fun z => nomatch z) fun tk => ⟨.bl b, H, I.tok tk, rfl, q⟩
/-- the class that a value t is -/
theorem clsV_of {mg : Mg} {cs fs : List Str} (M : ModF g.K g.mg cs fs) {k : Sum String Str} {t : D} {b : Bool} {H F : Hp} {v : V} (e : isiK cs k t = some b) (h : Top g.K g.mg H F t v) :
    ∃ u, ClsV v u ∧ (∀ a, k = .inl a → a ∈ kNames → PySem.W.kitOne g.K (.type a) u = some b) ∧ ∀ c C, k = .inr c → ClsF g.K g.mg cs c C → PySem.W.kitOne g.K (.ref C) u = some b := by
  unfold isiK at e
  split at e
  · split at e
    · rename_i a n hn
      cases e
      cases (show v = V.ty n from h)
      exact ⟨_, ClsV.ty n, fun _ e ha => by cases e; exact kit_ty (subT_kit _ ha n hn), fun c C e _ => nomatch e⟩
    · cases e
  · split at e
    · rename_i a c hc
      cases e
      obtain ⟨C, fx⟩ := M.cls c hc
      obtain ⟨f, rfl, ef⟩ := (show ∃ f, v = V.ref f ∧ g.mg c = some (.ref f) from h)
      rw [fx.at_] at ef; cases ef
      exact ⟨_, ClsV.own C, fun _ e ha => by cases e; exact fx.sup _ ha, fun c C e _ => nomatch e⟩
    · cases e
  · split at e
    · rename_i c c' hc
      cases e
      obtain ⟨C, fx⟩ := M.cls c' hc
      obtain ⟨f, rfl, ef⟩ := (show ∃ f, v = V.ref f ∧ g.mg c' = some (.ref f) from h)
      rw [fx.at_] at ef; cases ef
      exact ⟨_, ClsV.own C, fun a' e ha => (nomatch e), fun c0 C0 e fx0 => by cases e; exact fx0.own c' hc C fx.at_⟩
    · cases e
  · split at e
    · rename_i c n hn
      cases e
      cases (show v = V.ty n from h)
      exact ⟨_, ClsV.ty n, fun a' e ha => (nomatch e), fun c0 C0 e fx0 => by cases e; exact fx0.sub n hn⟩
    · cases e
  · cases e
theorem cb_isi (hK : X.K = g.K) {cs fs : List Str} (M : ModF g.K g.mg cs fs) : Cb X g (.builtin "isinstance") (isiD cs fs) := by
  refine ⟨_, call_isi.or call_isiF, fun T ρ σ H F ds vs rv Q R t e k => ?_⟩
  unfold isiD at e
  split at e
  · rename_i d c
    cases e1 : kindD cs fs d with
    | none => rw [e1] at e; cases e
    | some kd =>
      rw [e1] at e
      simp only [Option.bind_some] at e
      cases e2 : isiK cs kd c with
      | none => rw [e2] at e; cases e
      | some b =>
        rw [e2] at e; cases e
        obtain ⟨x, y, rfl, t1, t2⟩ := t.two
        obtain ⟨u, hu, hl, hr⟩ := clsV_of (mg := g.mg) M e2 t2
        have fin : Q (.bl b) H := k _ H F (Sub.refl F) ⟨R, rfl⟩
        have base : ∀ a, kd = .inl a → a ∈ kNames → TyX X.K H x (.type a) → rIsi X.K [x, y] H Q := fun a ea ha ty => ⟨x, y, _, u, b, rfl, hu, ty, by rw [hK]; exact hl a ea ha, fin⟩
        cases d with
        | non => cases e1; cases (show x = V.non from t1); exact .inl (base _ rfl (by decide) (.base .non))
        | bl z => cases e1; cases (show x = V.bl z from t1); exact .inl (base _ rfl (by decide) (.base (.bl z)))
        | int z => cases e1; cases (show x = V.int z from t1); exact .inl (base _ rfl (by decide) (.base (.int z)))
        | str z => cases e1; obtain ⟨rfl, _⟩ := (show x = V.str z ∧ _ from t1); exact .inl (base _ rfl (by decide) (.base (.str z)))
        | tup xs =>
          cases e1
          simp only [Top, Rep] at t1
          obtain ⟨a, us, rfl, sq, _⟩ := t1
          refine .inl (base _ rfl (by decide) ?_)
          rcases R.fz.sub.sqT sq.t with (h | ⟨o, h⟩) | h
          · exact .base (.tup h)
          · exact .fTuple h
          · rw [hK]
            obtain ⟨o, its, n, h1, h2, _⟩ := h
            exact .kTuple h1 h2
        | lst xs =>
          cases e1
          simp only [Top] at t1
          obtain ⟨a, us, rfl, sq, _⟩ := t1
          refine .inl (base _ rfl (by decide) ?_)
          rcases sq with h | ⟨o, h⟩
          · exact .base (.lst h)
          · exact .base (.frz h)
        | dic ks zs =>
          cases e1
          simp only [Top] at t1
          obtain ⟨a, kvs, rfl, h, _⟩ := t1
          exact .inl (base _ rfl (by decide) (.base (.dK h)))
        | obj c0 ns zs =>
          simp only [kindD] at e1
          split at e1
          · rename_i hc
            cases e1
            obtain ⟨C, fx⟩ := M.cls c0 hc
            simp only [Top] at t1
            obtain ⟨a, C', dx, ff, rfl, em, h, _⟩ := t1
            rw [fx.at_] at em; cases em
            exact .inl ⟨_, y, _, u, b, rfl, hu, .base (.ins h (by rw [hK]; exact fx.cls) (by rw [hK]; exact fx.ha) (by rw [hK]; exact fx.hn) (by rw [hK]; exact fx.htk) (by rw [hK]; exact fx.hm)), by rw [hK]; exact hr c0 C rfl fx, fin⟩
          · cases e1
        | glo f =>
          simp only [kindD] at e1
          split at e1
          · rename_i hc
            cases e1
            obtain ⟨a, o, ef, lk, oc⟩ := M.fn f hc
            obtain ⟨f', rfl, ef'⟩ := (show ∃ f', x = V.ref f' ∧ g.mg f = some (.ref f') from t1)
            rw [ef] at ef'; cases ef'
            exact .inr ⟨a, o, y, u, b, rfl, hu, by rw [hK]; exact lk, oc, by rw [hK]; exact hl _ rfl (by decide), fin⟩
          · cases e1
        | ty n => cases e1
        | set n => cases e1
        | iset _ => cases e1
  · cases e
end
end RF
end
section
/-! R14: own objects: attributes, making, methods. -/
namespace RF
open PySem L2

section
variable {g : Bg} {W : WX} {T T' : List (Addr × D)} {ρ ρ' ρ2 : Env} {σ : St} {H H' F F' : Hp}
theorem Rl.perm (R : Rl g T ρ σ H F) (p : T.Perm T') : Rl g T' ρ σ H F :=
  ⟨R.fz, R.len, R.sl, fun q hq => R.tm q (p.mem_iff.mpr hq), R.inj, fun i a ow hm => R.sep i a ow ((p.map (·.1)).mem_iff.mpr hm), (p.map (·.1)).nodup_iff.mp R.nd⟩
end

/-! ### attributes -/
def fldD (fl : List (Str × Str)) (f : Str) : List D → Option RV
  | [.obj c ns ds] => if (c, f) ∈ fl then ((ns.zip ds).lookup f).map .val else none
  | _ => none
/-- attributes that no class hides -/
def FldF (K : PySem.W.Frag) (mg : Mg) (fl : List (Str × Str)) : Prop := ∀ p ∈ fl, ∃ C, mg p.1 = some (.ref C) ∧ Cls K C ∧ NoAttr K C p.2
theorem Reps.look {K : PySem.W.Frag} {mg : Mg} {F : Hp} {f : Str} {d : D} : ∀ {fs : List (Str × V)} {ds : List D}, Reps K mg F ds (fs.map (·.2)) → ((fs.map (·.1)).zip ds).lookup f = some d → ∃ v, fs.lookup f = some v ∧ Rep K mg F d v
  | [], ds, r, e => by simp at e
  | (n, v) :: fs, ds, r, e => by
    cases ds with
    | nil => simp at e
    | cons d0 ds =>
      simp only [List.map_cons, Reps] at r
      obtain ⟨v', vr, e1, r1, r2⟩ := r
      cases e1
      simp only [List.map_cons, List.zip_cons_cons, List.lookup_cons] at e ⊢
      cases hb : (f == n) with
      | true => rw [hb] at e; cases e; exact ⟨v, by simp, r1⟩
      | false => rw [hb] at e; exact Reps.look r2 e
def putD (f : Str) (d : D) : List Str → List D → List Str × List D
  | n :: ns, x :: xs => if n = f then (n :: ns, d :: xs) else let p := putD f d ns xs; (n :: p.1, x :: p.2)
  | _, _ => ([f], [d])
theorem putD_ok {K : PySem.W.Frag} {mg : Mg} {F : Hp} {f : Str} {d : D} {v : V} (rd : Rep K mg F d v) : ∀ {fs : List (Str × V)} {ds : List D}, Reps K mg F ds (fs.map (·.2)) →
    (putF f v fs).map (·.1) = (putD f d (fs.map (·.1)) ds).1 ∧ Reps K mg F (putD f d (fs.map (·.1)) ds).2 ((putF f v fs).map (·.2))
  | [], ds, r => by
    cases ds with
    | nil => exact ⟨rfl, Reps.cons rd Reps.nil⟩
    | cons d0 ds => simp only [List.map_nil, Reps] at r; obtain ⟨_, _, e, _⟩ := r; cases e
  | (n, w) :: fs, ds, r => by
    cases ds with
    | nil => simp only [List.map_cons, Reps] at r; cases r
    | cons d0 ds =>
      simp only [List.map_cons, Reps] at r
      obtain ⟨v', vr, e1, r1, r2⟩ := r
      cases e1
      simp only [List.map_cons, putF, putD]
      split
      · exact ⟨rfl, Reps.cons rd r2⟩
      · obtain ⟨h1, h2⟩ := putD_ok (f := f) rd r2
        exact ⟨by simp only [List.map_cons]; rw [h1], Reps.cons r1 h2⟩
def asObj : D → Option (Str × List Str × List D)
  | .obj c ns ds => some (c, ns, ds)
  | _ => none
/-- x.f = e, x in slot i -/
def setF (fl : List (Str × Str)) (f : Str) (d : D) : D → Option D
  | .obj c ns ds => if (c, f) ∈ fl ∧ ns.length < 1000 then some (.obj c (putD f d ns ds).1 (putD f d ns ds).2) else none
  | _ => none
def sPutF (fl : List (Str × Str)) (i : Nat) (f : Str) (mv : ME) : MS := fun ρ => (eKeep mv ρ).bind fun o ρ1 => lift (asV o) fun d => lift (getM ρ1 i) fun c => lift (setF fl f d c) fun c' => lift (putOut (.slot i) c' ρ1) fun ρ2 => .ok .nx ρ2
section
variable {X : Cx} {g : Bg} {W : WX} {e o value : Expr} {m mv : ME} {f : Str} {pos pos' : Pos} {fl : List (Str × Str)} {i : Nat}
theorem SE.fld (hK : X.K = g.K) (M : FldF g.K g.mg fl) (h : SE X g W e m) (hb : attributeBase e f X.env (eval e X.env) = eval e X.env) : SE X g W (.Attribute e f pos) (eOp (fldD fl f) [m]) := by
  refine PEimp (pe_fld h hb) fun σ H Q q => ?_
  refine rdOp1 (f := fldD fl f) (r := fun x H1 Q => ∃ a C dx fs v, x = .ref a ∧ H1 a = some (.ins C dx fs) ∧ Cls X.K C ∧ NoAttr X.K C f ∧ fs.lookup f = some v ∧ Q v H1) (fun T ρ σ H F ds vs rv Q R t e k => ?_) q
  unfold fldD at e
  split at e
  · rename_i c ns ds
    split at e
    · rename_i hm
      cases e1 : (ns.zip ds).lookup f with
      | none => rw [e1] at e; cases e
      | some d =>
        rw [e1] at e; cases e
        obtain ⟨v, rfl, t1⟩ := t.one
        simp only [Top] at t1
        obtain ⟨a, C, dx, fs, rfl, em, ha, rfl, r⟩ := t1
        obtain ⟨C', em', cl, na⟩ := M _ hm
        rw [em] at em'; cases em'
        obtain ⟨v, lv, rv⟩ := r.look e1
        exact ⟨_, rfl, a, C, dx, fs, v, rfl, ha, by rw [hK]; exact cl, by rw [hK]; exact na, lv, k v H F (Sub.refl F) ⟨R, rv⟩⟩
    · cases e
  · cases e
theorem SS.putF (hK : X.K = g.K) (M : FldF g.K g.mg fl) (ho : PE X o (tVar i)) (hv : SE X g W value mv) (hs : swapsWith value (some (.Attribute o f pos')) pos.line X.env = pure false) : SS X g W (.Assign [.Attribute o f pos'] value pos) (sPutF fl i f mv) := by
  refine PSimp (ps_fld ho (SE.keep hv) hs) fun E σ H q => ?_
  obtain ⟨T, ρ, F, R, q⟩ := q
  refine ⟨T, ρ, F, R, ?_⟩
  simp only [sPutF] at q
  cases e1 : eKeep mv ρ with
  | no => simp only [e1, RF.R.bind, Pst] at q
  | ex x ρ1 => simp only [e1, RF.R.bind] at q; exact Pst.xw q
  | ok ov ρ1 =>
    simp only [e1, RF.R.bind] at q
    obtain ⟨d, rfl⟩ := asV_keep e1
    simp only [asV, lift] at q
    intro v H1 F1 s1 ⟨R1, rd⟩
    cases e2 : getM ρ1 i with
    | none => simp only [e2, Pst] at q
    | some c =>
      simp only [e2] at q
      obtain ⟨a, hv', ow, at1⟩ := R1.own_at e2
      cases e3 : setF fl f d c with
      | none => simp only [e3, Pst] at q
      | some c' =>
        simp only [e3] at q
        cases e4 : putOut (.slot i) c' ρ1 with
        | none => simp only [e4, Pst] at q
        | some ρ2 =>
          simp only [e4, Pst] at q
          unfold setF at e3
          split at e3
          · rename_i c0 ns ds
            split at e3
            · rename_i hm
              cases e3
              obtain ⟨C, dx, fs, em, ha, rfl, r⟩ := at1
              obtain ⟨C', em', cl, na⟩ := M _ hm.1
              rw [em] at em'; cases em'
              refine ⟨_, hv', a, C, dx, fs, rfl, ha, by rw [hK]; exact cl, by rw [hK]; exact na, by have := hm.2; rwa [List.length_map] at this, ?_⟩
              obtain ⟨p1, p2⟩ := putD_ok (f := f) rd r
              exact q σ _ F1 s1 (R1.write hv' ow e4 ⟨C, dx, _, em, upd_same, p1, p2⟩)
            · cases e3
          · cases e3
end

/-! ### a new object -/
def doMake (f : FunSem) (os : List OV) (ρ : Env) : R OV :=
  if lentOk f.modes os [] then lift (getOs ρ os) fun ds => match f.run ds with
    | .ret false .non (self :: outs) => lift (putOuts f.modes os (self :: outs) ρ) fun ρ2 => .ok (.fresh self) ρ2
    | .ex e outs => lift (putOuts f.modes os outs ρ) fun ρ2 => .ex e ρ2
    | _ => .no
  else .no
def eMake (f : FunSem) (c : Str) (ms : List ME) (pms : List Pm) : ME := fun ρ => (evU ms ρ).bind fun os ρ1 => match noFresh os with
  | true => lift (pick os pms) fun os' => doMake f (.fresh (.obj c [] []) :: os') ρ1
  | false => .no
/-- how self and arguments come to parameters -/
structure SelfP (K : PySem.W.Frag) (mg : Mg) (fd : FuncData) (ps : List Str) (n : Nat) (ks : List Str) (pms : List Pm) : Prop where
  ex : ∃ (du : Nat → Value) (dv : Nat → V), (∀ j d, pms[j]? = some (.dft d) → RelV (dv j) (du j) ∧ ∀ F, Rep K mg F d (dv j)) ∧
    ∀ (s : Shared) (x : Value) (us ws : List Value), K.In s.heap → us.length = n → ws.length = ks.length → BindsTo s fd ⟨x :: us, ks.zip ws⟩ (ps.zip (x :: pickU du (us ++ ws) 0 pms))
  ix : ∀ i, Pm.arg i ∈ pms → i < n + ks.length
section
variable {g : Bg} {W : WX} {T T' : List (Addr × D)} {ρ ρ' ρ2 : Env} {σ : St} {H H' F F' : Hp}
theorem doMake_sp {f : FunSem} {os : List OV} {vs : List V} {F0 : Hp} {Q : VK} {c : Str} {C x dx : Addr} (hr : Rl g T ρ σ H F) (hz : OVs g σ F os vs) (hnf : noFresh os = true) (s0 : Sub F0 F) (hC : g.mg c = some (.ref C)) (hm0 : ∃ ms, f.modes = true :: ms) (hx : H x = none) (hdx : H dx = none) (hne : dx ≠ x)
    (h : match doMake f (.fresh (.obj c [] []) :: os) ρ with | .ok o ρ' => ∀ v H' F', Sub F0 F' → Res g T o v ρ' σ H' F' → Q v H' | .ex e ρ' => Xw g W σ F0 e ρ' | .no => False) :
    spF g.K g.mg f (.ref x :: vs) (upd (upd H dx (.own x)) x (.ins C dx [])) (fun v H2 => v = .non ∧ Q (.ref x) H2) (fun cls d H' => W cls d σ H') := by
  have hx2 : upd H dx (.own x) x = none := by rw [upd_ne (Ne.symm hne)]; exact hx
  have R0 : Rl g ((x, .obj c [] []) :: T) ρ σ (upd (upd H dx (.own x)) x (.ins C dx [])) F := (hr.laid hdx).laidT hx2 ⟨C, dx, [], hC, upd_same, rfl, Reps.nil⟩
  have et : tmps (.fresh (.obj c [] []) :: os) (.ref x :: vs) = [(x, .obj c [] [])] := by simp [tmps, tmp1, noFresh_tmps hnf]
  have R : Rl g (tmps (.fresh (.obj c [] []) :: os) (.ref x :: vs) ++ T) ρ σ (upd (upd H dx (.own x)) x (.ins C dx [])) F := by rw [et]; exact R0
  have z : OVs g σ F (.fresh (.obj c [] []) :: os) (.ref x :: vs) := ⟨.ref x, vs, rfl, ⟨x, rfl⟩, hz⟩
  generalize hos : OV.fresh (.obj c [] []) :: os = os2 at *
  unfold doMake at h
  cases hl : lentOk f.modes os2 [] with
  | false => simp [hl] at h
  | true =>
    simp only [hl, if_true] at h
    cases hq : getOs ρ os2 with
    | none => simp only [hq, lift] at h
    | some ds =>
      simp only [hq, lift] at h
      have ht : ∀ p ∈ tmps os2 (.ref x :: vs), p ∈ tmps os2 (.ref x :: vs) ++ T := fun p hp => List.mem_append_left _ hp
      have nd : ((tmps os2 (.ref x :: vs)).map (·.1)).Nodup := by rw [et]; simp
      cases hf : f.run ds with
      | no => simp only [hf] at h
      | ret fr d outs =>
        simp only [hf] at h
        split at h
        · rename_i o ρ' hh
          split at hh
          · rename_i self outs' hret
            cases hret
            cases hp : putOuts f.modes os2 (self :: outs') ρ with
            | none => rw [hp] at hh; cases hh
            | some ρ2 =>
              rw [hp] at hh
              cases hh
              refine ⟨F, ds, R.fz.sub, (lent_args R ht hl hp (fun _ _ => rfl) z hq).1, lent_nodup R ht nd hl hp (fun _ _ => rfl) z hq, ?_⟩
              rw [hf]
              intro v H' F' P r
              have R2 := call_back R hl hp z hq P
              refine ⟨r, h _ H' F' (s0.trans P.f) ⟨x, rfl, R2.temp ⟨?_, ?_, ?_⟩ (fun i ow => ?_) fun hm => ?_⟩⟩
              · cases eF : F' x with
                | none => rfl
                | some o =>
                  have := P.new x o eF (hr.fz.free hx).2.1
                  rw [upd_same] at this; cases this
              · exact (hr.fz.free hx).1
              · obtain ⟨ms0, em0⟩ := hm0
                have po := P.outs
                rw [em0] at po
                simp only [OutsOk] at po
                obtain ⟨c1, cr, v1, vr, e1, e2, ⟨a, ea, at'⟩, _⟩ := po
                cases e1; cases e2; cases ea
                exact at'
              · obtain ⟨sv, e1, m, hv⟩ := ow
                obtain ⟨_, p1, p2⟩ := putOuts_get i hl hp
                have ow' : Ow ρ σ i x := by
                  cases ho : outAt f.modes os2 (self :: outs') i with
                  | none => exact ⟨sv, by rw [← p2 ho]; exact e1, m, hv⟩
                  | some c =>
                    rcases p1 c ho with ⟨c0, e2, _⟩ | ⟨c0, e2, _⟩
                    · exact ⟨_, e2, rfl, hv⟩
                    · exact ⟨_, e2, rfl, hv⟩
                obtain ⟨⟨o, eo⟩, _⟩ := hr.ow ow'
                rw [hx] at eo; cases eo
              · obtain ⟨p, hp', ep⟩ := List.mem_map.mp hm
                obtain ⟨o, eo⟩ := (hr.tm p hp').2.2.there
                rw [ep, hx] at eo; cases eo
          · rename_i hret; cases hret
          · cases hh
        · rename_i hh
          split at hh
          · rename_i self outs' hret
            cases hp : putOuts f.modes os2 (self :: outs') ρ with
            | none => rw [hp] at hh; cases hh
            | some ρ2 => rw [hp] at hh; cases hh
          · rename_i hret; cases hret
          · cases hh
        · exact h.elim
      | ex e outs =>
        simp only [hf] at h
        cases hp : putOuts f.modes os2 outs ρ with
        | none => simp only [hp] at h
        | some ρ2 =>
          simp only [hp] at h
          refine ⟨F, ds, R.fz.sub, (lent_args R ht hl hp (fun _ _ => rfl) z hq).1, lent_nodup R ht nd hl hp (fun _ _ => rfl) z hq, ?_⟩
          rw [hf]
          intro cls dd H' F' P x'
          have R2 := call_back R hl hp z hq P
          exact h cls dd H' F' (s0.trans P.f) (Rl.drops (T := []) (T' := T) (by rw [List.append_nil]; exact R2)) x'.xr
end
end RF
end
section
/-! R15: calls of classes and of methods. -/
namespace RF
open PySem L2

section
variable {X : Cx} {g : Bg} {W : WX} {es : List Expr} {ms kms : List ME} {kws : List Keyword} {k : Nat} {f C : Addr} {fd : FuncData} {ps : List Str} {fs : FunSem} {x : Str} {p pos : Pos} {pms : List Pm}
theorem run_makeP {pins : List (Addr × Obj)} {σ : St} {H : Hp} {s : Shared} {Q : VK} {us ws : List Value} {vs zs : List V} {n : Nat} {ks : List Str} {sp : Sp} {E : XK} {dv : Nat → V} {du : Nat → Value} (M : Mk X.K C f) (Fn : FnOk X.prog X.w X.K X.mg X.base (L2.CX X.prog X.w) k f fd ps sp) (hr : Room (k + 1) X.A)
    (hd : ∀ j d, pms[j]? = some (.dft d) → RelV (dv j) (du j)) (hto : ∀ (s : Shared) (x : Value) (us ws : List Value), X.K.In s.heap → us.length = n → ws.length = ks.length → BindsTo s fd ⟨x :: us, ks.zip ws⟩ (ps.zip (x :: pickU du (us ++ ws) 0 pms))) (hix : ∀ i, Pm.arg i ∈ pms → i < n + ks.length)
    (hx : PassesAt (L2.CX X.prog X.w) X σ E) (I : Inv X pins σ H s) (r : Vals vs us) (rz : Vals zs ws) (l1 : vs.length = n) (l2 : zs.length = ks.length)
    (h : ∀ x dx, H x = none → H dx = none → dx ≠ x → sp (.ref x :: pickV dv (vs ++ zs) 0 pms) (upd (upd H dx (.own x)) x (.ins C dx [])) (fun v H2 => v = .non ∧ Q (.ref x) H2) E) :
    wpAny (model X.prog X.w) X.A (call (.ref C) us (ks.zip ws)) (EP X pins σ Q) X.xe s := by
  have hq := h (s.heap.objs.size + 1) s.heap.objs.size (I.hok.fresh (Nat.le_succ _)) (I.hok.fresh (Nat.le_refl _)) (Nat.ne_of_lt (Nat.lt_succ_self _))
  have I2 := Inv.made (C := C) I
  have r2 : Vals (V.ref (s.heap.objs.size + 1) :: pickV dv (vs ++ zs) 0 pms) (Value.ref (s.heap.objs.size + 1) :: pickU du (us ++ ws) 0 pms) :=
    .cons rfl (pick_vals (r.append rz) (fun i hi => by rw [List.length_append, l1, l2]; exact hix i hi) fun i d e => by simpa using hd i d e)
  refine wpAny_call (make_map (f := f) I.kIn M.makes M.init (beq_iff_eq.mp M.fn) (codeAny_mono (Fn.run _ X.stack _ _ ⟨Value.ref (s.heap.objs.size + 1) :: us, ks.zip ws⟩ _ _ _ E (hr.make C us (ks.zip ws))
    (I2.env0.make C us (ks.zip ws)) (hto _ _ us ws I2.kIn (r.length.symm.trans l1) (rz.length.symm.trans l2)) r2 hq) fun r s' hq' => ?_))
  cases r with
  | error e => exact hx pins _ _ e s' I2 hq'
  | ok fl =>
    cases fl with
    | ret u =>
      obtain ⟨v, H', I3, rv, ev, q3⟩ := I2.after hq'
      subst ev
      exact ⟨rv, ⟨V.ref (s.heap.objs.size + 1), H', I3, rfl, q3⟩⟩
    | next => exact False.elim hq'
    | brk => exact False.elim hq'
    | cont => exact False.elim hq'
theorem rdMake {c : Str} {σ : St} {H : Hp} {Q : VK} {dv : Nat → V} (hC : g.mg c = some (.ref C)) (hm0 : ∃ ms, fs.modes = true :: ms) (hd : ∀ F i d, pms[i]? = some (.dft d) → Rep g.K g.mg F d (dv i)) (h : rdE g W (eMake fs c ms pms) σ H Q) :
    rdA g W ms σ H fun vs H1 => ∀ x dx, H1 x = none → H1 dx = none → dx ≠ x → spF g.K g.mg fs (.ref x :: pickV dv vs 0 pms) (upd (upd H1 dx (.own x)) x (.ins C dx [])) (fun v H2 => v = .non ∧ Q (.ref x) H2) (WE W σ) := by
  obtain ⟨T, ρ, F, R, h⟩ := h
  refine ⟨T, ρ, F, R, ?_⟩
  simp only [eMake] at h
  cases e : evU ms ρ with
  | no => rw [e] at h; exact h
  | ex x ρ1 => rw [e] at h; exact h
  | ok os ρ1 =>
    rw [e] at h
    simp only [RF.R.bind] at h
    intro vs H1 F1 s1 ⟨R1, z1⟩ x dx hx hdx hne
    cases hn : noFresh os with
    | false => simp only [hn] at h
    | true =>
      simp only [hn] at h
      cases hp : pick os pms with
      | none => simp only [hp, lift] at h
      | some os' =>
        simp only [hp, lift] at h
        rw [noFresh_tmps hn] at R1
        exact doMake_sp (os := os') (T := T) (F := F1) (F0 := F) R1 (pick_ovs z1 hp fun i d e => by simpa using hd F1 i d e) (pick_noFresh hn hp) s1 hC hm0 hx hdx hne h
/-- C(e, .., k = v, ..) of a class of the module -/
theorem SE.make (hK : X.K = g.K) (hG : md X = g.mg) (M : Mk X.K C f) (Fn : FnOk X.prog X.w X.K X.mg X.base (L2.CX X.prog X.w) k f fd ps (spF X.K (md X) fs)) (hm0 : ∃ ms, fs.modes = true :: ms) (hr : Room (k + 1) X.A) (hg : Gl X x) (hm : X.mg x = some (.ref C))
    (hb : SelfP X.K (md X) fd ps es.length (kws.filterMap (·.arg)) pms) (tk : Takes X W) (ha : SA X g W es ms) (hkw : SKw X g W kws kms) (hl : ms.length = es.length) (hl2 : kms.length = (kws.filterMap (·.arg)).length) (hs : es.all notStar = true) (hn : kws.all (fun k => k.arg.isSome) = true) (hdb : (x == ("__debug__" : Str)) = false) :
    SE X g W (.Call (.Name x p) es kws pos) (eMake fs x (ms ++ kms) pms) := by
  refine ⟨fun pins s σ H Q I h => ?_⟩
  obtain ⟨⟨du, dv, hd, hto⟩, hix⟩ := hb
  rw [hK, hG] at hd
  have q := rdA_append (rdMake (dv := dv) (by rw [← hG]; exact hm) hm0 (fun F i d e => (hd i d e).2 F) h)
  obtain ⟨k1, k2, k3⟩ := kw_all (env := X.env) (pos := pos) hn
  refine wpAny_Call_Name_kw (ld_glob I hg hm ?_ hdb)
  rw [← hK, ← hG] at q
  cases es with
  | nil =>
    refine PySem.W.callWith_KW0 (h₀ := X.base) (first := []) I.ok.mod.kin M.kp k1 ?_ (by rw [k2]; rfl)
    have : ms = [] := List.length_eq_zero_iff.mp hl
    subst this
    refine thn (hkw.run pos pins s σ H _ I (rdA_nil q)) fun ws s2 ⟨zs, H2, I2, rz, l1, l2, q2⟩ => ⟨I2.kIn, ?_⟩
    rw [k3]
    exact run_makeP (n := 0) (us := []) (vs := []) M Fn hr (fun j d e => (hd j d e).1) hto hix (passAt tk σ) I2 .nil rz rfl (l2.trans hl2) q2
  | cons e es =>
    have hs' := hs
    simp only [List.all_cons, Bool.and_eq_true] at hs'
    refine PySem.W.callWith_KW (h₀ := X.base) (first := []) I.ok.mod.kin M.kp k1 (thn (ha.run pos pins s σ H _ I q) fun us s1 ⟨vs, H1, I1, r, q⟩ => ?_) (by rw [k2, star_any pos hs]; rfl) (star_ok hs'.1)
    refine thn (hkw.run pos pins s1 σ H1 _ I1 q) fun ws s2 ⟨zs, H2, I2, rz, l1, l2, q2⟩ => ⟨I2.kIn, ?_⟩
    rw [k3]
    exact run_makeP M Fn hr (fun j d e => (hd j d e).1) hto hix (passAt tk σ) I2 r rz (l1.trans hl) (l2.trans hl2) q2
end

/-! ### methods -/
theorem form_ok {env : PySem.Env} {pos : Pos} {args : List Expr} {kws : List Keyword} (hs : args.all notStar = true) (hn : kws.all (fun k => k.arg.isSome) = true) (hl : decide (args.length + kws.length + 1 < 30) = true) :
    methodCallForm (args.length + kws.length) (backTo pos (starEach args env)) (backToKw pos (keywordEach kws env)) = true := by
  unfold methodCallForm
  have h2 : (backTo pos (starEach args env)).all (fun x => !x.1) = true := by
    rw [List.all_eq_not_any_not]
    simp only [Bool.not_not]
    rw [star_any pos hs]; rfl
  rw [h2, (kw_all (env := env) (pos := pos) hn).1]
  have := of_decide_eq_true hl
  simp only [Bool.true_and, decide_eq_true_eq]
  split <;> omega
theorem wp_meth {prog : Program} {w : World} {A : Around} {E : Value → Shared → Prop} {s : Shared} {env : PySem.Env} {o : Expr} {name : Str} {apos pos : Pos} {args : List Expr} {kws : List Keyword} {Q : Value → Shared → Prop}
    (hbase : attributeBase o name env (eval o env) = eval o env) (hs : args.all notStar = true) (hn : kws.all (fun k => k.arg.isSome) = true) (hl : decide (args.length + kws.length + 1 < 30) = true) (hline : (apos.endLine == pos.line) = true)
    (h : wpAny (model prog w) A (eval o env) (fun ov s1 => ∀ pl : Sem Bool, wpAny (model prog w) A (getMethod ov name pl) (fun fx s2 => wpAny (model prog w) A (callWith pos fx.1 fx.2 (backTo pos (starEach args env)) (backToKw pos (keywordEach kws env))) Q E s2) E s1) E s) :
    wpAny (model prog w) A (eval (.Call (.Attribute o name apos) args kws pos) env) Q E s := by
  rw [arm_eval_Call, hbase]
  refine wpAny_bind (wpAny_mono h (fun ov s1 h1 => ?_) fun _ _ e => e)
  refine wpAny_bind (wpAny_standAt ?_)
  have hpos : methodCallPos true o env apos pos = pure pos := by unfold methodCallPos; simp [hline]
  unfold methodCall
  rw [form_ok hs hn hl]
  refine wpAny_bind (wpAny_holding ?_)
  show wpAny _ _ (getMethod ov name _) _ _ _
  refine wpAny_mono (h1 _) (fun fx s2 h2 => ?_) fun _ _ e => e
  exact wpAny_bind (wpAny_of_eq hpos h2)
def eMeth (tbl : List (Str × FunSem × List Pm)) (name : Str) (m : ME) (ms : List ME) : ME := fun ρ => (m ρ).bind fun o ρ1 => lift (getO ρ1 o) fun d => lift (asObj d) fun c => lift (tbl.lookup c.1) fun f =>
  match c.2.1.contains name with
  | true => .no
  | false => (evU ms ρ1).bind fun os ρ2 => match noFresh (o :: os) with
    | true => lift (pick os f.2) fun os' => doCall f.1 (o :: os') ρ2
    | false => .no
theorem asObj_some {d : D} {p : Str × List Str × List D} (h : asObj d = some p) : d = .obj p.1 p.2.1 p.2.2 := by
  unfold asObj at h
  split at h
  · cases h; rfl
  · cases h
theorem look_none {fs : List (Str × V)} {f : Str} (h : (fs.map (·.1)).contains f = false) : fs.lookup f = none := by
  induction fs with
  | nil => rfl
  | cons p fs ih =>
    obtain ⟨n, v⟩ := p
    simp only [List.map_cons, List.contains_cons, Bool.or_eq_false_iff] at h
    rw [List.lookup_cons, h.1]
    exact ih h.2
/-- a class's method -/
structure MethF (X : Cx) (name : Str) (n : Nat) (ks : List Str) (c : Str) (fs : FunSem) (pms : List Pm) (C fa : Addr) (fd : FuncData) (ps : List Str) (k : Nat) : Prop where
  at_ : X.mg c = some (.ref C)
  cls : Cls X.K C
  meth : Meth X.K C name fa
  fn : FnOk X.prog X.w X.K X.mg X.base (L2.CX X.prog X.w) k fa fd ps (spF X.K (md X) fs)
  room : Room k X.A
  bind : SelfP X.K (md X) fd ps n ks pms
section
variable {X : Cx} {g : Bg} {W : WX} {es : List Expr} {ms kms : List ME} {kws : List Keyword} {name : Str} {apos pos : Pos} {o : Expr} {m : ME} {tbl : List (Str × FunSem × List Pm)}
theorem SE.meth (hK : X.K = g.K) (hG : md X = g.mg) (hT : ∀ c f, tbl.lookup c = some f → ∃ C fa fd ps k, MethF X name es.length (kws.filterMap (·.arg)) c f.1 f.2 C fa fd ps k) (tk : Takes X W) (ho : SE X g W o m) (ha : SA X g W es ms) (hkw : SKw X g W kws kms)
    (hl : ms.length = es.length) (hl2 : kms.length = (kws.filterMap (·.arg)).length) (hs : es.all notStar = true) (hn : kws.all (fun k => k.arg.isSome) = true) (hb : attributeBase o name X.env (eval o X.env) = eval o X.env) (hline : (apos.endLine == pos.line) = true) (hl3 : decide (es.length + kws.length + 1 < 30) = true) :
    SE X g W (.Call (.Attribute o name apos) es kws pos) (eMeth tbl name m (ms ++ kms)) := by
  refine ⟨fun pins s σ H Q I h => ?_⟩
  obtain ⟨k1, k2, k3⟩ := kw_all (env := X.env) (pos := pos) hn
  have q : rdE g W m σ H fun x H1 => ∃ (a : Addr) (c : Str) (f : FunSem × List Pm) (C fa : Addr) (fd : FuncData) (ps : List Str) (k : Nat) (dx : Addr) (fs : List (Str × V)), x = .ref a ∧ H1 a = some (.ins C dx fs) ∧ fs.lookup name = none ∧ MethF X name es.length (kws.filterMap (·.arg)) c f.1 f.2 C fa fd ps k ∧
      ∀ dv : Nat → V, (∀ F i d, f.2[i]? = some (.dft d) → Rep g.K g.mg F d (dv i)) → rdA g W (ms ++ kms) σ H1 fun vs H2 => spF g.K g.mg f.1 (.ref a :: pickV dv vs 0 f.2) H2 Q (WE W σ) := by
    obtain ⟨T, ρ, F, R, h⟩ := h
    refine ⟨T, ρ, F, R, ?_⟩
    simp only [eMeth] at h
    cases e1 : m ρ with
    | no => rw [e1] at h; exact h
    | ex x ρ1 => rw [e1] at h; exact h
    | ok ov ρ1 =>
      rw [e1] at h
      simp only [RF.R.bind] at h
      intro v H1 F1 s1 r1
      cases e2 : getO ρ1 ov with
      | none => simp only [e2, lift] at h
      | some d =>
        simp only [e2, lift] at h
        cases e3 : asObj d with
        | none => simp only [e3] at h
        | some p =>
          have := asObj_some e3
          subst this
          simp only [e3] at h
          cases e4 : tbl.lookup p.1 with
          | none => simp only [e4] at h
          | some f =>
            simp only [e4] at h
            cases e5 : p.2.1.contains name with
            | true => simp only [e5] at h
            | false =>
              simp only [e5] at h
              have tp := r1.top e2
              simp only [Top] at tp
              obtain ⟨a, C, dx, fs, rfl, em, ha', en, _⟩ := tp
              obtain ⟨C', fa, fd, ps, k, M⟩ := hT p.1 f e4
              have em2 : (md X).f p.1 = some (.ref C') := M.at_
              rw [hG, em] at em2
              cases em2
              refine ⟨a, p.1, f, C, fa, fd, ps, k, dx, fs, rfl, ha', look_none (by rw [en]; exact e5), M, fun dv hd => ?_⟩
              obtain ⟨R1, z1⟩ := r1.one
              refine ⟨tmp1 ov (.ref a) ++ T, ρ1, F1, R1, ?_⟩
              cases e6 : evU (ms ++ kms) ρ1 with
              | no => simp only [e6] at h
              | ex x ρ2 => simp only [e6] at h; exact Xw.mono s1 h
              | ok os ρ2 =>
                simp only [e6] at h
                intro vs H2 F2 s2 ⟨R2, z2⟩
                cases hn : noFresh (ov :: os) with
                | false => simp only [hn] at h
                | true =>
                  simp only [hn] at h
                  cases hp : pick os f.2 with
                  | none => simp only [hp] at h
                  | some os' =>
                    simp only [hp] at h
                    have hn1 : noFresh os = true := by cases ov <;> simp_all [noFresh]
                    have hn2 : noFresh (ov :: os') = true := by
                      have := pick_noFresh hn1 hp
                      cases ov <;> simp_all [noFresh]
                    have ht1 : tmp1 ov (.ref a) = [] := by cases ov <;> simp_all [noFresh, tmp1]
                    rw [ht1, noFresh_tmps hn1] at R2
                    refine doCall_sp (os := ov :: os') (T := T) (F := F2) (F0 := F) ⟨?_, .ref a, _, rfl, z1.mono s2, pick_ovs z2 hp fun i d e => by simpa using hd F2 i d e⟩ (s1.trans s2) h
                    rw [noFresh_tmps hn2]
                    exact R2
  refine wp_meth hb hs hn hl3 hline (thn (ho.run pins s σ H _ I q) fun u s1 ⟨x, H1, I1, rx, a, c, f, C, fa, fd, ps, k, dx, fs, ex, ea, l, M, q⟩ => fun pl => ?_)
  subst ex
  obtain rfl : u = Value.ref a := rx
  refine getmeth_ok I1 ea M.cls M.meth l ?_
  obtain ⟨⟨du, dv, hd, hto⟩, hix⟩ := M.bind
  have hd' := hd
  rw [hK, hG] at hd'
  have q2 := rdA_append (q dv fun F i d e => (hd' i d e).2 F)
  rw [← hK, ← hG] at q2
  have fin : ∀ us ws s2 vs zs H2, Inv X pins σ H2 s2 → Vals vs us → Vals zs ws → vs.length = ms.length → zs.length = kms.length → spF X.K (md X) f.1 (.ref a :: pickV dv (vs ++ zs) 0 f.2) H2 Q (WE W σ) →
      wpAny (model X.prog X.w) X.A (PySem.call (.ref fa) (.ref a :: us) ((kws.filterMap (·.arg)).zip ws)) (EP X pins σ Q) X.xe s2 := fun us ws s2 vs zs H2 I2 r rz l1 l2 q2 => by
    have r2 : Vals (V.ref a :: pickV dv (vs ++ zs) 0 f.2) (Value.ref a :: pickU du (us ++ ws) 0 f.2) :=
      .cons rfl (pick_vals (r.append rz) (fun i hi => by rw [List.length_append, l1, l2, hl, hl2]; exact hix i hi) fun i d e => by simpa using (hd i d e).1)
    refine wpAny_call (codeAny_mono (M.fn.run X.A X.stack s2 H2 ⟨Value.ref a :: us, (kws.filterMap (·.arg)).zip ws⟩ (Value.ref a :: pickU du (us ++ ws) 0 f.2) (V.ref a :: pickV dv (vs ++ zs) 0 f.2) Q (WE W σ) M.room I2.env0 (hto s2 (.ref a) us ws I2.kIn (by rw [← r.length, l1, hl]) (by rw [← rz.length, l2, hl2])) r2 q2) fun r s' hq => ?_)
    cases r with
    | error e => exact passAt tk σ pins H2 s2 e s' I2 hq
    | ok fl =>
      cases fl with
      | ret u => exact I2.after hq
      | next => exact False.elim hq
      | brk => exact False.elim hq
      | cont => exact False.elim hq
  cases es with
  | nil =>
    refine PySem.W.callWith_KW0 (h₀ := X.base) (first := [.ref a]) I.ok.mod.kin M.meth.kp k1 ?_ (by rw [k2]; rfl)
    have : ms = [] := List.length_eq_zero_iff.mp hl
    subst this
    refine thn (hkw.run pos pins s1 σ H1 _ I1 (rdA_nil q2)) fun ws s2 ⟨zs, H2, I2, rz, l1, l2, q2⟩ => ⟨I2.kIn, ?_⟩
    rw [k3]
    exact fin [] ws s2 [] zs H2 I2 .nil rz rfl l2 q2
  | cons e es =>
    have hs' := hs
    simp only [List.all_cons, Bool.and_eq_true] at hs'
    refine PySem.W.callWith_KW (h₀ := X.base) (first := [.ref a]) I.ok.mod.kin M.meth.kp k1 (thn (ha.run pos pins s1 σ H1 _ I1 q2) fun us s2 ⟨vs, H2, I2, r, q⟩ => ?_) (by rw [k2, star_any pos hs]; rfl) (star_ok hs'.1)
    refine thn (hkw.run pos pins s2 σ H2 _ I2 q) fun ws s3 ⟨zs, H3, I3, rz, l1, l2, q2⟩ => ⟨I3.kIn, ?_⟩
    rw [k3]
    exact fin us ws s3 vs zs H3 I3 r rz l1 l2 q2
end
end RF
end
section
/-! RDun: len(o), str(o), repr(o) by an own def. -/
namespace RF
open PySem L2
theorem Rl.grow {g : Bg} {T : List (Addr × D)} {ρ : Env} {σ : St} {H H' F : Hp} (R : Rl g T ρ σ H F) (k : ∀ a o, H a = some o → H' a = some o) : Rl g T ρ σ H' F := by
  refine ⟨⟨fun a o e => k a o (R.fz.sub a o e), R.fz.f0, R.fz.new, fun a o e hb => k a o (R.fz.keep a o e hb), R.fz.par, fun a hb => ?_⟩, R.len, fun i sv e => ?_, fun p hp => ?_, R.inj, R.sep, R.nd⟩
  · obtain ⟨⟨o, e⟩, r⟩ := R.fz.bor a hb
    exact ⟨⟨o, k a o e⟩, r⟩
  · obtain ⟨v, q, z⟩ := R.sl i sv e
    refine ⟨v, q, z.move (Sub.refl F) fun a ea m => ?_⟩
    subst ea
    obtain ⟨⟨o, eo⟩, n⟩ := R.ow (i := i) (a := a) ⟨sv, e, m, q⟩
    exact ⟨by rw [k a o eo, eo], n⟩
  · have t := R.tm p hp
    obtain ⟨o, eo⟩ := t.2.2.there
    exact t.move (by rw [k _ o eo, eo]) (Sub.refl F) t.1
section
variable {X : Cx} {pins : List (Addr × Obj)} {σ : St} {H : Hp} {s : Shared} {a C dx : Addr} {fs : List (Str × V)}
theorem inst_of (I : Inv X pins σ H s) (e : H a = some (.ins C dx fs)) : ∃ ox od, PySem.W.InstAt s.heap a ox C od := by
  obtain ⟨mA, O, _, _, _, _⟩ := ins_get I.hok e
  obtain ⟨od, h1, _⟩ := lookIn_ns O.ns
  exact ⟨_, some od, O.obj, rfl, rfl, h1⟩
theorem own_run {name : Str} {c : Str} {f : FunSem} {fa : Addr} {fd : FuncData} {ps : List Str} {k : Nat} {A' : Around} {E : Value → Shared → Prop} {Q : VK} (M : MethF X name 0 [] c f [] C fa fd ps k) (hr : Room k A') (he : Env0 X.prog X.w X.K X.mg X.base A' X.stack s H) (I : Inv X pins σ H s)
    (q : spF X.K (md X) f [.ref a] H Q (fun _ _ _ => False)) : wpAny (model X.prog X.w) A' (PySem.call (.ref fa) [.ref a]) (EP X pins σ Q) E s := by
  obtain ⟨⟨du, dv, hd, hto⟩, hix⟩ := M.bind
  have hb := hto s (.ref a) [] [] I.kIn rfl rfl
  refine wpAny_call (codeAny_mono (M.fn.run A' X.stack s H ⟨[Value.ref a], []⟩ [Value.ref a] [V.ref a] Q (fun _ _ _ => False) hr he hb (.cons rfl .nil) q) fun r s' hq => ?_)
  cases r with
  | error e =>
    obtain ⟨_, _, _, _, _, _, _, _, _, _, _, _, h⟩ := hq
    exact h.elim
  | ok fl =>
    cases fl with
    | ret u => exact I.after hq
    | next => exact False.elim hq
    | brk => exact False.elim hq
    | cont => exact False.elim hq
end
/-- what the rules ask: an instance with an own def of this name -/
def rDun (X : Cx) (name : Str) (P : V → Prop) : List V → Hp → VK → Prop := fun xs H Q => ∃ (a : Addr) (c : Str) (C dx : Addr) (fs : List (Str × V)) (f : FunSem) (fa : Addr) (fd : FuncData) (ps : List Str) (k : Nat),
  xs = [.ref a] ∧ H a = some (.ins C dx fs) ∧ MethF X name 0 [] c f [] C fa fd ps k ∧ Room (k + 1) X.A ∧ spF X.K (md X) f [.ref a] H (fun v H' => P v ∧ Q v H') (fun _ _ _ => False)
section
variable {X : Cx}
theorem call_lenO : CallR X (.builtin "len") (rDun X "__len__" fun v => ∃ n : Int, v = .int n ∧ 0 ≤ n ∧ n < 2 ^ 63) := by
  intro pins s σ H xs us Q I r h
  obtain ⟨a, c, C, dx, fs, f, fa, fd, ps, k, rfl, e, M, hr, q⟩ := h
  obtain ⟨u, rfl, ru⟩ := vals1 r
  cases ru
  obtain ⟨ox, od, IA⟩ := inst_of I e
  refine Calls.call_function_entry kind_len plain_len entry_len (args_len1 _) ?_
  unfold Builtin.«len»
  refine wpAny_bind (m := oneArg "len" _) (wpAny_pure ?_)
  refine wpAny_bind (m := callSpecial? (.ref a) (Str.ofString "__len__")) (PySem.W.special_fn I.kIn IA M.meth.at_ (beq_iff_eq.mp M.meth.fn) (wpAny_mono (own_run M hr.in1 I.env0.in1 I q) (fun r s' hr => ?_) fun _ _ y => y))
  obtain ⟨v, H', I', rv, ⟨n, rfl, h0, h1⟩, q'⟩ := hr
  obtain ⟨t, rfl⟩ := rv
  refine wpAny_bind (wpAny_holding (wpAny_pure ?_))
  refine wpAny_bind (wpAny_letGo ?_)
  show wpAny _ _ (if n < 0 then _ else _) _ _ _
  rw [if_neg (by omega)]
  show wpAny _ _ (if n ≥ 2 ^ 63 then _ else _) _ _ _
  rw [if_neg (by omega)]
  exact wpAny_bind (wpAny_mkInt (wpAny_pure ⟨_, rfl, ⟨.int n, H', I'.tok _, ⟨_, rfl⟩, q'⟩⟩))
theorem call_reprO : CallR X (.builtin "repr") (rDun X "__repr__" fun v => ∃ z : Str, v = .str z) := by
  intro pins s σ H xs us Q I r h
  obtain ⟨a, c, C, dx, fs, f, fa, fd, ps, k, rfl, e, M, hr, q⟩ := h
  obtain ⟨u, rfl, ru⟩ := vals1 r
  cases ru
  obtain ⟨ox, od, IA⟩ := inst_of I e
  have hu := hr.un
  refine Calls.call_function_entry F.kind_repr F.plain_repr F.entry_repr (F.args_repr1 _) ?_
  unfold Builtin.«repr»
  refine wpAny_bind (m := oneArg "repr" _) (wpAny_pure ?_)
  refine wpAny_bind (wpAny_cRoomFor (by show X.A.units + 1 < cLine; omega) ?_)
  refine wpAny_bind (wpAny_bind (IA.type.here ((PySem.W.looks_findIn I.kIn M.meth.at_).here ?_)))
  show wpAny _ _ (if (some (Value.ref fa)).isNone = true then _ else _) _ _ _
  rw [if_neg (by simp)]
  refine wpAny_bind (m := callSpecialIfBound? (.ref a) (Str.ofString "__repr__") _) (PySem.W.ifBound_K I.kIn IA M.meth.at_ M.meth.fn (wpAny_mono (own_run M hr.in1 I.env0.in1 I q) (fun r s' hr => ?_) fun _ _ y => y))
  obtain ⟨v, H', I', rv, ⟨z, rfl⟩, q'⟩ := hr
  obtain ⟨t, rfl⟩ := rv
  refine wpAny_bind (wpAny_isInstance (typeIs_str _ _ _) isSubtype_str_str ?_)
  have fin : EP X pins σ Q (.str z t) s' := ⟨.str z, H', I', ⟨_, rfl⟩, q'⟩
  first
    | exact wpAny_pure ⟨_, rfl, fin⟩
    | (rw [if_pos rfl]; exact wpAny_pure ⟨_, rfl, fin⟩)
    | (simp only [if_true]; exact wpAny_pure ⟨_, rfl, fin⟩)
open Builtin Builtin.Str in
theorem call_strO : CallR X (.type "str") (rDun X "__str__" fun v => ∃ z : Str, v = .str z) := by
  intro pins s σ H xs us Q I r h
  obtain ⟨a, c, C, dx, fs, f, fa, fd, ps, k, rfl, e, M, hr, q⟩ := h
  obtain ⟨u, rfl, ru⟩ := vals1 r
  cases ru
  obtain ⟨ox, od, IA⟩ := inst_of I e
  have hu := hr.un
  have hr2 : Room k X.A.in1.in1 := ⟨hr.hd, by have := hr.dp; show X.A.depth + 3 * k + 5 < _; omega, by show X.A.units + 1 + 1 + 16 * k + 200 < _; omega⟩
  refine callType_codes (T := "str") (Bi := Builtin.«object.__init__») (Q₁ := fun r s₁ => ∃ y u, r = .str y u ∧ EP X pins σ Q r s₁) PySem.F.called_str (PySem.F.typeCall_str_1 _) PySem.F.entry_object_init ?_ ?_
  · refine codeAny_of_tree ?_
    show wpAny _ X.A.in1.in1 (do checkBuiltinCall "str.__new__" ⟨[.type "str", .ref a], []⟩; again (.builtin "str.__new__" ⟨[.type "str", .ref a], []⟩)) _ _ s
    refine wpAny_bind (wpAny_of_eq (PySem.F.newCall_str_1 _) (wpAny_pure ⟨plainId_quiet (by decide +kernel) _, codeAny_builtin PySem.F.entry_str_new ?_⟩))
    rw [Around.under_plainId (by decide +kernel) _]
    rw [str_new_tree]
    refine wpAny_bind (wpAny_pure ?_)
    refine wpAny_bind (wpAny_of_eq isSubtype_str_str ?_)
    have key : wpAny (model X.prog X.w) X.A.in1.in1 (PySem.Builtin.Str.strOf (.ref a)) (fun r s₁ => ∃ y u, r = .str y u ∧ EP X pins σ Q r s₁) X.xe s := by
      unfold PySem.Builtin.Str.strOf
      rw [show isExactStr (.ref a) = false from rfl]
      refine wpAny_bind (m := cRoomFor _ _) (wpAny_cRoomFor (by show X.A.units + 1 + 1 < cLine; omega) ?_)
      refine wpAny_bind (m := callSpecial? (.ref a) (Str.ofString "__str__")) (PySem.W.special_fn I.kIn IA M.meth.at_ (beq_iff_eq.mp M.meth.fn) (wpAny_mono (own_run M hr2 I.env0.in1.in1 I q) (fun r s' hr => ?_) fun _ _ y => y))
      obtain ⟨v, H', I', rv, ⟨z, rfl⟩, q'⟩ := hr
      obtain ⟨t, rfl⟩ := rv
      exact wpAny_pure ⟨_, _, rfl, .str z, H', I', ⟨_, rfl⟩, q'⟩
    exact wpAny_bind (wpAny_mono key (fun r s₁ hr => wpAny_pure hr) fun _ _ y => y)
  · rintro obj s₁ ⟨y, u, rfl, hq⟩
    exact ⟨typeIs_str _ _ _, PySem.F.args_object_init_2 _ _, object_init_meets PySem.F.called_str.init.lookup PySem.F.called_str.made (by decide) X.prog X.w X.A.in1 _ s₁ ⟨typeIs_str _ _ _, rfl, hq⟩⟩
/-- bool(o): no __bool__, an own __len__ -/
def rBoolO (X : Cx) : List V → Hp → VK → Prop := fun xs H Q => ∃ (a : Addr) (c : Str) (C dx : Addr) (fs : List (Str × V)) (f : FunSem) (fa : Addr) (fd : FuncData) (ps : List Str) (k : Nat),
  xs = [.ref a] ∧ H a = some (.ins C dx fs) ∧ MethF X "__len__" 0 [] c f [] C fa fd ps k ∧ PySem.W.findIn X.K (.ref C) "__bool__" = some none ∧ Room (k + 1) X.A ∧
    spF X.K (md X) f [.ref a] H (fun v H' => ∃ n : Int, v = .int n ∧ 0 ≤ n ∧ n < 2 ^ 63 ∧ Q (.bl (n != 0)) H') (fun _ _ _ => False)
theorem truthyO {A' : Around} {pins : List (Addr × Obj)} {σ : St} {H : Hp} {s : Shared} {a C dx fa : Addr} {fs : List (Str × V)} {c : Str} {f : FunSem} {fd : FuncData} {ps : List Str} {k : Nat} {E : Value → Shared → Prop} {Q : Bool → Hp → Prop}
    (I : Inv X pins σ H s) (e : H a = some (.ins C dx fs)) (M : MethF X "__len__" 0 [] c f [] C fa fd ps k) (nb : PySem.W.findIn X.K (.ref C) "__bool__" = some none) (hr : Room k A'.in1) (he : Env0 X.prog X.w X.K X.mg X.base A'.in1 X.stack s H)
    (q : spF X.K (md X) f [.ref a] H (fun v H' => ∃ n : Int, v = .int n ∧ 0 ≤ n ∧ n < 2 ^ 63 ∧ Q (n != 0) H') (fun _ _ _ => False)) :
    wpAny (model X.prog X.w) A' (truthy (.ref a)) (fun b s' => ∃ H', Inv X pins σ H' s' ∧ Q b H') E s := by
  obtain ⟨ox, od, IA⟩ := inst_of I e
  unfold truthy
  have key : wpAny (model X.prog X.w) A' (runValue (.builtin "len" ⟨[.ref a], []⟩)) (fun r s' => ∃ n t, r = .int n t ∧ ∃ H', Inv X pins σ H' s' ∧ Q (n != 0) H') E s := by
    refine wpAny_runValue (codeAny_builtin entry_len ?_)
    rw [Around.under_plainId plain_len _]
    unfold Builtin.«len»
    refine wpAny_bind (m := oneArg "len" _) (wpAny_pure ?_)
    refine wpAny_bind (m := callSpecial? (.ref a) (Str.ofString "__len__")) (PySem.W.special_fn I.kIn IA M.meth.at_ (beq_iff_eq.mp M.meth.fn) (wpAny_mono (own_run M hr he I q) (fun r s' hr => ?_) fun _ _ y => y))
    obtain ⟨v, H', I', rv, n, rfl, h0, h1, q'⟩ := hr
    obtain ⟨t, rfl⟩ := rv
    refine wpAny_bind (wpAny_holding (wpAny_pure ?_))
    refine wpAny_bind (wpAny_letGo ?_)
    show wpAny _ _ (if n < 0 then _ else _) _ _ _
    rw [if_neg (by omega)]
    show wpAny _ _ (if n ≥ 2 ^ 63 then _ else _) _ _ _
    rw [if_neg (by omega)]
    exact wpAny_bind (wpAny_mkInt (wpAny_pure ⟨n, _, rfl, H', I'.tok _, q'⟩))
  have nob : ∀ {R : Option Value → Shared → Prop}, R none s → wpAny (model X.prog X.w) A' (callSpecial? (.ref a) (Str.ofString "__bool__")) R E s := fun {R} h => by
    unfold callSpecial? specialOf
    exact wpAny_bind (wpAny_bind (IA.type.here ((PySem.W.looks_findIn I.kIn nb).here (wpAny_pure h))))
  refine wpAny_bind (m := callSpecial? (.ref a) (Str.ofString "__bool__")) (nob ?_)
  show wpAny _ _ (specialOf (.ref a) (Str.ofString "__len__") >>= _) _ _ _
  refine wpAny_bind (wpAny_bind (IA.type.here ((PySem.W.looks_findIn I.kIn M.meth.at_).here ?_)))
  show wpAny _ _ (if (some (Value.ref fa)).isNone = true then _ else _) _ _ _
  rw [if_neg (by simp)]
  refine wpAny_bind (wpAny_mono key (fun r s' hr => ?_) fun _ _ y => y)
  obtain ⟨n, t, rfl, H', I', q'⟩ := hr
  exact wpAny_pure ⟨H', I', q'⟩
theorem call_boolO : CallR X (.type "bool") (rBoolO X) := by
  intro pins s σ H xs us Q I r h
  obtain ⟨a, c, C, dx, fs, f, fa, fd, ps, k, rfl, e, M, nb, hr, q⟩ := h
  obtain ⟨u, rfl, ru⟩ := vals1 r
  cases ru
  have hu := hr.un
  have hr2 : Room k X.A.in1.in1.in1 := ⟨hr.hd, by have := hr.dp; show X.A.depth + 3 * k + 5 < _; omega, by show X.A.units + 1 + 1 + 1 + 16 * k + 200 < _; omega⟩
  refine callType_codes (T := "bool") (Bi := Builtin.«object.__init__») (Q₁ := fun r s₁ => ∃ b, r = .bool b ∧ EP X pins σ Q r s₁) PySem.F.called_bool (PySem.F.typeCall_bool_1 _) PySem.F.entry_object_init ?_ ?_
  · refine codeAny_of_tree ?_
    show wpAny _ X.A.in1.in1 (do checkBuiltinCall "bool.__new__" ⟨[.type "bool", .ref a], []⟩; again (.builtin "bool.__new__" ⟨[.type "bool", .ref a], []⟩)) _ _ s
    refine wpAny_bind (wpAny_of_eq (PySem.F.newCall_bool_1 _) (wpAny_pure ⟨plainId_quiet (by decide +kernel) _, codeAny_builtin PySem.F.entry_bool_new ?_⟩))
    rw [Around.under_plainId (by decide +kernel) _]
    have t := truthyO (A' := X.A.in1.in1) (E := X.xe) (Q := fun b H' => Q (.bl b) H') I e M nb hr2 I.env0.in1.in1.in1 q
    have f1 := PySem.F.conv_sub_bool
    unfold Builtin.«bool.__new__»
    refine wpAny_bind (m := isType (.type "bool")) (wpAny_pure ?_)
    refine wpAny_bind (m := isSubtype (.type "bool") (.type "bool")) (wpAny_of_eq f1 ?_)
    refine wpAny_bind (m := someArgs "bool" 0 1 _) (wpAny_pure ?_)
    refine wpAny_bind (wpAny_mono t (fun b s' hb => ?_) fun _ _ y => y)
    obtain ⟨H', I', q'⟩ := hb
    exact wpAny_pure ⟨b, rfl, .bl b, H', I', rfl, q'⟩
  · rintro obj s₁ ⟨b, rfl, hq⟩
    exact ⟨typeIs_bool _ _, PySem.F.args_object_init_2 _ _, object_init_meets PySem.F.called_bool.init.lookup PySem.F.called_bool.made (by decide) X.prog X.w X.A.in1 _ s₁ ⟨typeIs_bool _ _, rfl, hq⟩⟩
end
end RF
end
section
/-! RDun2: len, str, repr, bool of own objects, str of ints and texts, f-texts: by values. -/
namespace RF
open PySem L2
def dunD (tb : List (Str × FunSem × List Pm)) (chk : D → Bool) : List D → Option RV
  | [.obj c ns ds] => match tb.lookup c with
    | some (f, []) => if f.modes = [false] then (match f.run [.obj c ns ds] with
      | .ret false r [] => if chk r then some (.val r) else none
      | _ => none) else none
    | _ => none
  | _ => none
def chkLen : D → Bool
  | .int n => decide (0 ≤ n) && decide (n < 2 ^ 63)
  | _ => false
def chkStr : D → Bool
  | .str _ => true
  | _ => false
def lenX (tb : List (Str × FunSem × List Pm)) : List D → Option RV
  | [.obj c ns ds] => dunD tb chkLen [.obj c ns ds]
  | ds => lenD ds
/-- an int's text -/
def intS (i : Int) : Str := Str.ofString (toString i)
def intOk (i : Int) : Bool := decide (i.natAbs.log2 < 1920) && decide ((intS i).length ≤ cap) && PyData.strOk (intS i)
def reprX (tb : List (Str × FunSem × List Pm)) : List D → Option RV
  | [.int i] => if intOk i then some (.val (.str (intS i))) else none
  | [.obj c ns ds] => dunD tb chkStr [.obj c ns ds]
  | _ => none
def strX (tb : List (Str × FunSem × List Pm)) : List D → Option RV
  | [.int i] => if intOk i then some (.val (.str (intS i))) else none
  | [.str s] => some (.val (.str s))
  | [.obj c ns ds] => dunD tb chkStr [.obj c ns ds]
  | _ => none
def toB : RV → Option RV
  | .val (.int n) => some (.val (.bl (n != 0)))
  | _ => none
def boolX (cs : List Str) (tb : List (Str × FunSem × List Pm)) : List D → Option RV
  | [.obj c ns ds] => if c ∈ cs then (dunD tb chkLen [.obj c ns ds]).bind toB else none
  | _ => none
section
variable {X : Cx} {g : Bg} {tb : List (Str × FunSem × List Pm)} {name : Str}
abbrev TbOk (X : Cx) (name : Str) (tb : List (Str × FunSem × List Pm)) : Prop := ∀ c f, tb.lookup c = some f → ∃ C fa fd ps k, MethF X name 0 [] c f.1 f.2 C fa fd ps k ∧ Room (k + 1) X.A
/-- the heart: the def runs on the object, held still -/
theorem dun_run (hK : X.K = g.K) (hG : md X = g.mg) (hT : TbOk X name tb) {chk : D → Bool} {T : List (Addr × D)} {ρ : Env} {σ : St} {H F : Hp} {c : Str} {ns : List Str} {ds : List D} {vs : List V} {rv : RV}
    (R : Rl g T ρ σ H F) (t : Tops g H F [.obj c ns ds] vs) (e : dunD tb chk [.obj c ns ds] = some rv) :
    ∃ (a C dx fa : Addr) (fs : List (Str × V)) (f : FunSem) (fd : FuncData) (ps : List Str) (k : Nat) (r : D), vs = [.ref a] ∧ H a = some (.ins C dx fs) ∧ MethF X name 0 [] c f [] C fa fd ps k ∧ Room (k + 1) X.A ∧ rv = .val r ∧ chk r = true ∧
      ∀ (P : VK), (∀ v H' F'', (∀ b o, H b = some o → H' b = some o) → Rep g.K g.mg F'' r v → P v H') → spF X.K (md X) f [.ref a] H P (fun _ _ _ => False) := by
  simp only [dunD] at e
  split at e
  · rename_i f e1
    split at e
    · rename_i hm
      split at e
      · rename_i r e2
        split at e
        · rename_i hc
          cases e
          obtain ⟨v, rfl, t1⟩ := t.one
          simp only [Top] at t1
          obtain ⟨a, C, dx, fs, rfl, em, ha, en, rp⟩ := t1
          obtain ⟨C', fa, fd, ps, k, M, hr⟩ := hT c _ e1
          have em2 : (md X).f c = some (.ref C') := M.at_
          rw [hG, em] at em2
          cases em2
          have sF : Sub F (upd F a (.ins C dx fs)) := fun b o q => by
            unfold upd
            split
            · rename_i eb
              subst eb
              have := R.fz.sub _ _ q
              rw [ha] at this
              exact this
            · exact q
          refine ⟨a, C, dx, fa, fs, f, fd, ps, k, r, rfl, ha, M, hr, rfl, hc, fun P hP => ?_⟩
          rw [hK, hG]
          refine ⟨upd F a (.ins C dx fs), [.obj c ns ds], fun b o q => ?_, ?_, ?_, ?_⟩
          · unfold upd at q
            split at q
            · rename_i eb; subst eb; cases q; exact ha
            · exact R.fz.sub _ _ q
          · rw [hm]
            refine ⟨_, [], _, [], rfl, rfl, ?_, rfl, rfl⟩
            simp only [ArgOk, Rep]
            exact ⟨a, C, dx, fs, rfl, em, by simp [upd], en, Reps.mono sF _ _ rp⟩
          · rw [hm]; simp [borA, bor1]
          · rw [e2]
            intro v H' F'' post ret
            refine hP v H' F'' (fun b o q => post.keep b o q (by rw [hm]; simp [borA, bor1])) ret
        · cases e
      · cases e
    · cases e
  · cases e
theorem okl_dun (hK : X.K = g.K) (hG : md X = g.mg) (hT : TbOk X name tb) {chk : D → Bool} {P : V → Prop} (hP : ∀ r, chk r = true → ∀ F F' v, Rep g.K g.mg F r v → P v ∧ Rep g.K g.mg F' r v) : OkL g (dunD tb chk) (rDun X name P) := fun T ρ σ H F ds vs rv Q R t e k => by
  obtain ⟨c, ns, vs', rfl⟩ : ∃ c ns vs', ds = [.obj c ns vs'] := by
    unfold dunD at e
    split at e
    · exact ⟨_, _, _, rfl⟩
    · cases e
  obtain ⟨a, C, dx, fa, fs, f, fd, ps, n, r, rfl, ha, M, hr, rfl, hc, q⟩ := dun_run hK hG hT R t e
  refine ⟨a, c, C, dx, fs, f, fa, fd, ps, n, rfl, ha, M, hr, q _ fun v H' F'' kp rp => ?_⟩
  obtain ⟨h1, h2⟩ := hP r hc F'' F v rp
  exact ⟨h1, k _ H' F (Sub.refl F) ⟨R.grow kp, h2⟩⟩
theorem chkLen_p {r : D} (h : chkLen r = true) {F F' : Hp} {v : V} (rp : Rep g.K g.mg F r v) : (∃ n : Int, v = .int n ∧ 0 ≤ n ∧ n < 2 ^ 63) ∧ Rep g.K g.mg F' r v := by
  cases r <;> simp only [chkLen] at h <;> try cases h
  rename_i n
  simp only [Bool.and_eq_true, decide_eq_true_eq] at h
  simp only [Rep] at rp ⊢
  exact ⟨⟨n, rp, h.1, h.2⟩, rp⟩
theorem chkStr_p {r : D} (h : chkStr r = true) {F F' : Hp} {v : V} (rp : Rep g.K g.mg F r v) : (∃ z : Str, v = .str z) ∧ Rep g.K g.mg F' r v := by
  cases r <;> simp only [chkStr] at h <;> try cases h
  simp only [Rep] at rp ⊢
  exact ⟨⟨_, rp.1⟩, rp⟩
theorem cb_lenX (hK : X.K = g.K) (hG : md X = g.mg) (hT : TbOk X "__len__" tb) : Cb X g (.builtin "len") (lenX tb) := by
  obtain ⟨r0, c0, o0⟩ := cb_len (X := X) (g := g) hK hG
  refine ⟨_, c0.or call_lenO, fun T ρ σ H F ds vs rv Q R t e k => ?_⟩
  unfold lenX at e
  split at e
  · exact .inr (okl_dun hK hG hT (fun r h F F' v rp => chkLen_p h rp) T ρ σ H F _ vs rv Q R t e k)
  · exact .inl (o0 T ρ σ H F _ vs rv Q R t e k)
theorem rep_intS {i : Int} {F : Hp} (h : intOk i = true) : i.natAbs.log2 < 1920 ∧ Rep g.K g.mg F (.str (intS i)) (.str (intS i)) := by
  simp only [intOk, Bool.and_eq_true, decide_eq_true_eq] at h
  refine ⟨h.1.1, ?_⟩
  simp only [Rep]
  exact ⟨trivial, Nat.le_trans h.1.2 (by decide), h.2⟩
theorem cb_reprX (hK : X.K = g.K) (hG : md X = g.mg) (hT : TbOk X "__repr__" tb) : Cb X g (.builtin "repr") (reprX tb) := by
  refine ⟨_, SkE.call_repr_int.or call_reprO, fun T ρ σ H F ds vs rv Q R t e k => ?_⟩
  unfold reprX at e
  split at e
  · split at e
    · rename_i i hi
      cases e
      obtain ⟨x, rfl, t1⟩ := t.one
      simp only [Top, Rep] at t1; subst t1
      obtain ⟨h1, h2⟩ := rep_intS (g := g) (F := F) hi
      exact .inl ⟨i, rfl, h1, k _ H F (Sub.refl F) ⟨R, h2⟩⟩
    · cases e
  · exact .inr (okl_dun hK hG hT (fun r h F F' v rp => chkStr_p h rp) T ρ σ H F _ vs rv Q R t e k)
  · cases e
theorem cb_strX (hK : X.K = g.K) (hG : md X = g.mg) (hT : TbOk X "__str__" tb) : Cb X g (.type "str") (strX tb) := by
  refine ⟨_, (call_str_int.or SkE.call_str_str).or call_strO, fun T ρ σ H F ds vs rv Q R t e k => ?_⟩
  unfold strX at e
  split at e
  · split at e
    · rename_i i hi
      cases e
      obtain ⟨x, rfl, t1⟩ := t.one
      simp only [Top, Rep] at t1; subst t1
      obtain ⟨h1, h2⟩ := rep_intS (g := g) (F := F) hi
      exact .inl (.inl ⟨i, rfl, h1, k _ H F (Sub.refl F) ⟨R, h2⟩⟩)
    · cases e
  · cases e
    obtain ⟨x, rfl, t1⟩ := t.one
    simp only [Top, Rep] at t1
    obtain ⟨rfl, h1, h2⟩ := t1
    exact .inl (.inr ⟨_, rfl, k _ H F (Sub.refl F) ⟨R, by simp only [Rep]; exact ⟨trivial, h1, h2⟩⟩⟩)
  · exact .inr (okl_dun hK hG hT (fun r h F F' v rp => chkStr_p h rp) T ρ σ H F _ vs rv Q R t e k)
  · cases e
theorem cb_boolX (hK : X.K = g.K) (hG : md X = g.mg) (hT : TbOk X "__len__" tb) {cs : List Str} (hb : ∀ c ∈ cs, ∀ C, X.mg c = some (.ref C) → PySem.W.findIn X.K (.ref C) "__bool__" = some none) : Cb X g (.type "bool") (boolX cs tb) := by
  refine ⟨_, call_boolO, fun T ρ σ H F ds vs rv Q R t e k => ?_⟩
  unfold boolX at e
  split at e
  · rename_i c ns ds
    split at e
    · rename_i hc
      cases e1 : dunD tb chkLen [.obj c ns ds] with
      | none => rw [e1] at e; cases e
      | some r1 =>
        rw [e1] at e
        obtain ⟨a, C, dx, fa, fs, f, fd, ps, n, r, rfl, ha, M, hr, rfl, hck, q⟩ := dun_run hK hG hT R t e1
        cases r <;> simp only [chkLen] at hck <;> try cases hck
        rename_i m
        simp only [Bool.and_eq_true, decide_eq_true_eq] at hck
        cases e
        refine ⟨a, c, C, dx, fs, f, fa, fd, ps, n, rfl, ha, M, hb c hc C M.at_, hr, q _ fun v H' F'' kp rp => ?_⟩
        simp only [Rep] at rp
        exact ⟨m, rp, hck.1, hck.2, k _ H' F (Sub.refl F) ⟨R.grow kp, rep_bl F⟩⟩
    · cases e
  · cases e
end
end RF
end
section
/-! RFst: f'..': by values. -/
namespace RF
open PySem L2
def fmtD : List D → Option RV
  | [.str s] => some (.val (.str s))
  | [.int i] => if intOk i then some (.val (.str (intS i))) else none
  | _ => none
/-- the parts one behind the other -/
def goF : List ME → Str → ME
  | [], acc, ρ => .ok (.val (.str acc)) ρ
  | m :: ms, acc, ρ => (m ρ).bind fun o ρ1 => lift (asS o) fun y => if (acc ++ y).length ≤ cap then goF ms (acc ++ y) ρ1 else .no
def eFst (ms : List ME) : ME := goF ms Str.empty
section
variable {X : Cx} {g : Bg} {W : WX} {e : Expr} {es : List Expr} {m : ME} {ms : List ME} {pos : Pos}
theorem SE.fmt (h : SE X g W e m) : SE X g W (.FormattedValue e (-1) none pos) (eOp fmtD [m]) := by
  refine PEimp (pe_fmt h) fun σ H Q q => ?_
  obtain ⟨T, ρ, F, R, q⟩ := q
  refine ⟨T, ρ, F, R, ?_⟩
  simp only [eOp, evU] at q
  cases e1 : m ρ with
  | no => rw [e1] at q; exact q
  | ex x ρ1 => rw [e1] at q; exact q
  | ok o ρ1 =>
    rw [e1] at q
    simp only [RF.R.bind] at q
    intro v H1 F1 s1 r1
    cases e2 : getO ρ1 o with
    | none => simp only [getOs, e2, lift] at q
    | some d =>
      simp only [getOs, e2, lift] at q
      cases e3 : fmtD [d] with
      | none => simp only [e3] at q
      | some rv =>
        simp only [e3] at q
        have tp := r1.top e2
        have rl : Rl g T ρ1 σ H1 F1 := (Res.one r1).1.drops
        unfold fmtD at e3
        split at e3
        · rename_i s hd
          cases hd
          cases e3
          simp only [Top, Rep] at tp
          obtain ⟨rfl, h1, h2⟩ := tp
          exact .inl ⟨s, rfl, h1, q _ H1 F1 s1 ⟨rl, by simp only [Rep]; exact ⟨trivial, h1, h2⟩⟩⟩
        · rename_i i hd
          cases hd
          split at e3
          · rename_i hi
            cases e3
            simp only [Top, Rep] at tp
            subst tp
            obtain ⟨h1, h2⟩ := rep_intS (g := g) (F := F1) hi
            exact .inr ⟨i, rfl, h1, q _ H1 F1 s1 ⟨rl, h2⟩⟩
          · cases e3
        · cases e3
theorem goF_sound : ∀ {ms : List ME} {acc : Str} {σ : St} {H : Hp} {Q : VK} {T : List (Addr × D)} {ρ : Env} {F F0 : Hp}, Rl g T ρ σ H F → Sub F0 F → acc.length ≤ sizeLine → PyData.strOk acc = true →
    (match goF ms acc ρ with | .ok o ρ' => ∀ v H' F', Sub F0 F' → Res g T o v ρ' σ H' F' → Q v H' | .ex e ρ' => Xw g W σ F0 e ρ' | .no => False) → tJs (ms.map (rdE g W)) acc σ H fun out H1 => Q (.str out) H1
  | [], acc, σ, H, Q, T, ρ, F, F0, R, s0, h1, h2, q => by
    simp only [goF] at q
    exact q _ H F s0 ⟨R, by simp only [Rep]; exact ⟨trivial, h1, h2⟩⟩
  | m :: ms, acc, σ, H, Q, T, ρ, F, F0, R, s0, h1, h2, q => by
    simp only [goF] at q
    refine ⟨T, ρ, F, R, ?_⟩
    cases e1 : m ρ with
    | no => rw [e1] at q; exact q
    | ex x ρ1 => rw [e1] at q; exact Xw.mono s0 q
    | ok o ρ1 =>
      rw [e1] at q
      simp only [RF.R.bind] at q
      intro v H1 F1 s1 r1
      cases e2 : asS o with
      | none => simp only [e2, lift] at q
      | some y =>
        simp only [e2, lift] at q
        have eo : o = .val (.str y) := by
          unfold asS at e2
          split at e2
          · cases e2; rfl
          · cases e2
        subst eo
        by_cases hl : (acc ++ y).length ≤ cap
        · rw [if_pos hl] at q
          obtain ⟨rl, rp⟩ := r1
          simp only [Rep] at rp
          obtain ⟨rfl, z1, z2⟩ := rp
          have hz : (acc ++ y).length ≤ sizeLine := Nat.le_trans hl (by decide)
          exact ⟨y, rfl, hz, goF_sound rl (s0.trans s1) hz (strOk_append h2 z2) q⟩
        · rw [if_neg hl] at q
          exact q.elim
inductive SJ (X : Cx) (g : Bg) (W : WX) : List Expr → List ME → Prop where
  | nil : SJ X g W [] []
  | cons {e : Expr} {m : ME} {es : List Expr} {ms : List ME} (h : SE X g W e m) (r : SJ X g W es ms) : SJ X g W (e :: es) (m :: ms)
theorem SJ.of {f : Expr → ME} (h : ∀ e, SE X g W e (f e)) : ∀ es : List Expr, SJ X g W es (es.map f)
  | [] => .nil
  | e :: es => .cons (h e) (SJ.of h es)
theorem SJ.pj {es : List Expr} {ms : List ME} (h : SJ X g W es ms) : PJ X es (ms.map (rdE g W)) := by
  induction h with
  | nil => exact .nil
  | cons h _ ih => exact .cons h ih
theorem SE.fst {v1 v2 : Expr} {rest : List Expr} (h : SJ X g W (v1 :: v2 :: rest) ms) : SE X g W (.JoinedStr (v1 :: v2 :: rest) pos) (eFst ms) := by
  refine PEimp (pe_joined h.pj) fun σ H Q q => ?_
  obtain ⟨T, ρ, F, R, q⟩ := q
  exact goF_sound R (Sub.refl F) (Nat.zero_le _) (by simp [PyData.strOk, Str.empty]) q
end
end RF
end
section
/-! RS: sets of texts: one more put in, walked, sorted, counted. -/
namespace RF
open PySem L2

def TxR (m : Mg) (h : Heap) (a : Addr) (l : List Str) : Prop := ∃ T : Froz.SD, h.get? a = some (Froz.sObj "set" T) ∧ Froz.TxOk m.P m.w T l ∧ Ris T.2.2.place.toList ∧ (m.w.params.followText "set-order" = true ∨ T.2.2.led = true)
theorem put_ris (h : Int) (v : Value) (T : Froz.SD) (r : Ris T.2.2.place.toList) : Ris (Froz.addTx h v T).2.2.place.toList := by
  have r1 := layNew_ris T.2.2 T.1 h v r
  unfold Froz.addTx Froz.tailTx
  repeat' split
  all_goals first | exact relayAll_ris _ _ _ | exact r1
theorem put_led (h : Int) (v : Value) (T : Froz.SD) : (Froz.addTx h v T).2.2.led = T.2.2.led := by
  have r1 := layNew_led T.2.2 T.1 h v
  unfold Froz.addTx Froz.tailTx
  repeat' split
  all_goals first | exact r1 | exact (relayAll_led _ _ _).trans r1
def ins1 (k : Str) (l : List Str) : List Str := if k ∈ l then l else k :: l
theorem ins1_nodup {k : Str} {l : List Str} (h : l.Nodup) : (ins1 k l).Nodup := by
  unfold ins1; split
  · exact h
  · rename_i n; exact List.nodup_cons.mpr ⟨n, h⟩
theorem ins1_len (k : Str) (l : List Str) : (ins1 k l).length ≤ l.length + 1 := by
  unfold ins1; split <;> simp
theorem ins1_mem {k x : Str} {l : List Str} : x ∈ ins1 k l ↔ x = k ∨ x ∈ l := by
  unfold ins1; split
  · rename_i h; exact ⟨.inr, fun z => z.elim (fun e => e ▸ h) id⟩
  · exact List.mem_cons
section
variable {m : Mg} {A : Around} {E : Value → Shared → Prop} {s : Shared} {a : Addr} {l : List Str}
theorem TxR.hashed {k : Str} {u : Tok} {Q : Bool → Shared → Prop} (R : TxR m s.heap a l) (room : l.length + 1 < scanBound) (hQ : ∀ b h', Heap.SameBut a s.heap h' → TxR m h' a (ins1 k l) → Q b { s with heap := h' }) :
    wpAny (model m.P m.w) A (setAddHashed a (.str k u) (hashStr m.w k)) Q E s := by
  obtain ⟨T, ho, ok, hr, hl⟩ := R
  by_cases hk : k ∈ l
  · have e0 : ins1 k l = l := if_pos hk
    rw [e0] at hQ
    have q := fun b => hQ b s.heap (Heap.SameBut.refl a s.heap) ⟨T, ho, ok, hr, hl⟩
    obtain ⟨es, ep, t⟩ := T
    have hsz : es.size = l.length := ok.sz
    have hel : ElemsOf (strKind m.P m.w) es.toList := ok.el
    unfold setAddHashed setAddHashedIn
    refine wpAny_holding (wpAny_bind (wpAny_setState_of ho rfl ok.fit ?_))
    dsimp only
    rw [byScan_of (show (Value.str k u).scannable = true from rfl) (by omega) hel]
    simp only [↓reduceIte]
    unfold setAddByScan
    refine wpAny_bind (wpAny_bind (wpAny_rule (wpAny_bind (wpAny_setScan_of (knd := strKind m.P m.w) (k := k) (Froz.is_str k u) ho rfl ok.fit hel ?_))))
    cases hfi : List.findIdx? (fun e => (strKind m.P m.w).is k e.2) es.toList with
    | some j => exact wpAny_pure (wpAny_pure (q false))
    | none =>
      obtain ⟨e, he, z⟩ := (ok.mem k).mp hk
      have c := List.findIdx?_eq_none_iff.mp hfi e he
      rw [z] at c
      cases c
  · have e0 : ins1 k l = k :: l := if_neg hk
    rw [e0] at hQ
    refine Froz.add_x ho ok hk room (hQ true _ (Heap.SameBut.update _ _ _) ⟨_, Froz.get_upd _ ho rfl, Froz.add_ok u ok, put_ris _ _ _ hr, ?_⟩)
    rw [put_led]; exact hl
/-- a.add(k) -/
theorem TxR.add {k : Str} {u : Tok} {Q : Value → Shared → Prop} (R : TxR m s.heap a l) (room : l.length + 1 < scanBound) (hQ : ∀ h', Heap.SameBut a s.heap h' → TxR m h' a (ins1 k l) → Q .none { s with heap := h', toks := s.toks + 1 }) :
    wpAny (model m.P m.w) A (call (.builtin "set.add") [.ref a, .str k u]) Q E s := by
  have hT : s.TypeIs (.ref a) "set" := by obtain ⟨T, ho, _⟩ := R; exact ⟨_, ho, rfl⟩
  refine wpAny_call_entry F.slot_set_add hT F.entry_set_add ?_ (F.args_set_add_2 _ _)
  unfold Builtin.«set.add» Builtin.Frozenset.oneOther
  simp only [List.isEmpty_nil, bind_assoc]
  unfold Builtin.Frozenset.addrOf setAdd
  refine wpAny_bind (wpAny_pure (wpAny_bind (wpAny_pure (wpAny_bind (wpAny_holding (wpAny_bind ((strKind m.P m.w).pyHash (Froz.is_str k u) ?_)))))))
  refine TxR.hashed (s := { s with toks := s.toks + 1 }) R room fun b h' sb r => ?_
  show wpAny _ _ (ret Value.none) _ _ _
  exact wpAny_pure ⟨_, rfl, hQ h' sb r⟩
end
end RF
end
section
/-! RSort: sorted(list | tuple | set of texts). -/
namespace RF
open PySem L2

mutual
theorem reads_lt {h : Heap} : ∀ (d : PyData) (v : Value) (as : List Addr), Reads h v d as → ∀ x ∈ as, x < h.objs.size
  | .none, _, _, r, x, hx => by cases r; cases hx
  | .bool _, _, _, r, x, hx => by cases r; cases hx
  | .int _, _, _, r, x, hx => by cases r; cases hx
  | .str _, _, _, r, x, hx => by cases r; cases hx
  | .list xs, _, _, r, x, hx => by
    cases r with
    | list h1 h2 h3 h4 =>
      rcases List.mem_cons.mp hx with e | e
      · rw [e]; exact Heap.lt_size h1
      · exact readsAll_lt xs _ _ h4 x e
  | .tuple xs, _, _, r, x, hx => by
    cases r with
    | tuple h1 h2 h3 h4 => exact readsAll_lt xs _ _ h4 x hx
  | .dict kvs, _, _, r, x, hx => by
    cases r with
    | dict h1 h2 h3 h4 h5 =>
      rcases List.mem_append.mp hx with e | e
      · rcases List.mem_cons.mp e with e | e
        · rw [e]; exact Heap.lt_size h1
        · exact readsAll_ltK kvs _ _ h4 x e
      · exact readsAll_ltV kvs _ _ h5 x e
theorem readsAll_lt {h : Heap} : ∀ (ds : List PyData) (vs : List Value) (as : List Addr), ReadsAll h vs ds as → ∀ x ∈ as, x < h.objs.size
  | [], _, _, r, x, hx => by cases r; cases hx
  | d :: ds, _, _, r, x, hx => by
    cases r with
    | cons h1 h2 =>
      rcases List.mem_append.mp hx with e | e
      · exact reads_lt d _ _ h1 x e
      · exact readsAll_lt ds _ _ h2 x e
theorem readsAll_ltK {h : Heap} : ∀ (ds : List (PyData × PyData)) (vs : List Value) (as : List Addr), ReadsAll h vs (ds.map (·.1)) as → ∀ x ∈ as, x < h.objs.size
  | [], _, _, r, x, hx => by cases r; cases hx
  | (d, d') :: ds, _, _, r, x, hx => by
    cases r with
    | cons h1 h2 =>
      rcases List.mem_append.mp hx with e | e
      · exact reads_lt d _ _ h1 x e
      · exact readsAll_ltK ds _ _ h2 x e
theorem readsAll_ltV {h : Heap} : ∀ (ds : List (PyData × PyData)) (vs : List Value) (as : List Addr), ReadsAll h vs (ds.map (·.2)) as → ∀ x ∈ as, x < h.objs.size
  | [], _, _, r, x, hx => by cases r; cases hx
  | (d', d) :: ds, _, _, r, x, hx => by
    cases r with
    | cons h1 h2 =>
      rcases List.mem_append.mp hx with e | e
      · exact reads_lt d _ _ h1 x e
      · exact readsAll_ltV ds _ _ h2 x e
end

/-- data that < can put in order -/
def isTup1 : D → Bool
  | .tup (_ :: _) => true
  | _ => false
def isAtom : D → Bool
  | .bl _ => true | .int _ => true | .str _ => true | .lst _ => true
  | _ => false
def sortOk (xs : List D) : Bool := plains xs && xs.all (fun x => xs.all fun y => PySem.W.alike (pd x) (pd y)) && (xs.all isTup1 || xs.all isAtom) && decide (deps xs ≤ 50)
def leD1 (x y : D) : Bool := PySem.W.dataLe false pd x y
def sortD (xs : List D) : List D := xs.mergeSort leD1
theorem plains_mem {d : D} : ∀ {ds : List D}, plains ds = true → d ∈ ds → plain d = true
  | [], _, h => by cases h
  | x :: ds, hp, h => by
    simp only [plains, Bool.and_eq_true] at hp
    rcases List.mem_cons.mp h with e | e
    · rw [e]; exact hp.1
    · exact plains_mem hp.2 e
theorem deps_mem {d : D} : ∀ {ds : List D}, d ∈ ds → dep d ≤ deps ds
  | [], h => by cases h
  | x :: ds, h => by
    simp only [deps]
    rcases List.mem_cons.mp h with e | e
    · rw [e]; omega
    · have := deps_mem e; omega
section
variable {X : Cx} {g : Bg} {pins : List (Addr × Obj)} {σ : St} {H F : Hp} {s : Shared}
/-- a value that stands for a datum -/
def VD (K : PySem.W.Frag) (mg : Mg) (F : Hp) (u : Value) (d : D) : Prop := ∃ x, RelV x u ∧ Rep K mg F d x
theorem each_vd {K : PySem.W.Frag} {mg : Mg} {F : Hp} : ∀ {ws : List V} {us : List Value} {ds : List D}, Vals ws us → Reps K mg F ds ws → PySem.W.EachIs (VD K mg F) us ds
  | _, _, ds, .nil, r => by cases ds with
    | nil => exact .nil
    | cons d ds => simp only [Reps] at r; obtain ⟨_, _, e, _⟩ := r; cases e
  | _, _, ds, .cons r1 r2, r => by cases ds with
    | nil => simp only [Reps] at r; cases r
    | cons d ds =>
      simp only [Reps] at r
      obtain ⟨v, vr, e, h1, h2⟩ := r
      cases e
      exact .cons ⟨_, r1, h1⟩ (each_vd r2 h2)
theorem each_back {K : PySem.W.Frag} {mg : Mg} {F : Hp} : ∀ {us : List Value} {ds : List D}, PySem.W.EachIs (VD K mg F) us ds → ∃ ws, Vals ws us ∧ Reps K mg F ds ws
  | _, _, .nil => ⟨[], .nil, Reps.nil⟩
  | _, _, .cons ⟨x, r1, h1⟩ t => by
    obtain ⟨ws, r2, h2⟩ := each_back t
    exact ⟨x :: ws, .cons r1 r2, Reps.cons h1 h2⟩
theorem each_reads (hK : X.K = g.K) (I : Inv X pins σ H s) (sF : Sub F H) : ∀ {us : List Value} {ds : List D}, plains ds = true → PySem.W.EachIs (VD g.K g.mg F) us ds → PySem.W.EachIs (fun v b => ∃ as, Reads s.heap v (pd b) as) us ds
  | _, _, _, .nil => .nil
  | _, _, hp, .cons ⟨x, r1, h1⟩ t => by
    simp only [plains, Bool.and_eq_true] at hp
    have d := (Rep.dp sF _ _ hp.1 h1).1
    rw [← hK] at d
    exact .cons (Dp.reads I _ _ _ d r1) (each_reads hK I sF hp.2 t)
/-- behind what was collected: a new list, sorted -/
theorem sort_tail {us : List Value} {ds : List D} {A : Around} {Q : VK} {E : Value → Shared → Prop} (hK : X.K = g.K) (I : Inv X pins σ H s) (sF : Sub F H) (e : PySem.W.EachIs (VD g.K g.mg F) us ds) (ok : sortOk ds = true) (hz : ds.length ≤ sizeLine) (hu : A.units + 60 < cLine)
    (hQ : ∀ p ws, H p = none → Reps g.K g.mg F (sortD ds) ws → ws.length = ds.length → Q (.ref p) (upd H p (.lst ws))) :
    wpAny (model X.prog X.w) A (do let l ← newList us; let _ ← holding [l] (call (.builtin "list.sort") [l] []); ret l) (fun f s' => ∃ v, f = .done (.ret v) ∧ EP X pins σ Q v s') E s := by
  simp only [sortOk, Bool.and_eq_true, Bool.or_eq_true, decide_eq_true_eq] at ok
  obtain ⟨⟨⟨hp, hal⟩, hs⟩, hd⟩ := ok
  have hul : us.length = ds.length := e.length
  refine wpAny_bind (wpAny_newList ?_ (by omega))
  have hoL : (s.heap.push (PyProof.Rows.seqObj "list" us.toArray 0)).get? s.heap.objs.size = some (PyProof.Rows.seqObj "list" us.toArray 0) := Heap.get?_push_size _ rfl
  have hsize : s.heap.objs.size < (s.heap.push (PyProof.Rows.seqObj "list" us.toArray 0)).objs.size := by rw [PyProof.Rows.size_push']; exact Nat.lt_succ_self _
  have er : PySem.W.EachIs (fun v b => ∃ as, Reads (s.heap.push (PyProof.Rows.seqObj "list" us.toArray 0)) v (pd b) as ∧ s.heap.objs.size ∉ as) us ds :=
    (each_reads hK I sF hp e).mono fun v b ⟨as, r⟩ => ⟨as, PyProof.Rows.Reads.keeps (fun _ _ q => Heap.get?_push_of_some _ q) r, fun hm => Nat.lt_irrefl _ (reads_lt _ _ _ r _ hm)⟩
  refine wpAny_bind (wpAny_holding (PySem.W.list_sort_data (s := { s with heap := s.heap.push (PyProof.Rows.seqObj "list" us.toArray 0) }) hoL e er ?_ ?_ hz ?_ fun out hlen eo => ?_))
  · intro d hd d' hd'
    obtain ⟨b, hb, rfl⟩ := List.mem_map.mp hd
    obtain ⟨b', hb', rfl⟩ := List.mem_map.mp hd'
    exact List.all_eq_true.mp (List.all_eq_true.mp hal b hb) b' hb'
  · rcases hs with hs | hs
    · refine .inl fun d hd => ?_
      obtain ⟨b, hb, rfl⟩ := List.mem_map.mp hd
      have := List.all_eq_true.mp hs b hb
      unfold isTup1 at this
      split at this
      · exact ⟨_, _, by simp only [pd, pds]; rfl⟩
      · cases this
    · refine .inr fun d hd => ?_
      obtain ⟨b, hb, rfl⟩ := List.mem_map.mp hd
      have := List.all_eq_true.mp hs b hb
      unfold isAtom at this
      split at this <;> first | exact absurd this (by decide) | exact ⟨by simp [pd], by simp [pd]⟩
  · intro b hb
    rw [dep_pd b (plains_mem hp hb)]
    have := deps_mem hb
    omega
  · obtain ⟨ws, rv, rp⟩ := each_back eo
    obtain ⟨c, hc⟩ := PyProof.Rows.sortedHeap_at (vs := us) (out := out.toArray) hoL
    have hlw : ws.length = ds.length := by rw [rv.length, hlen]
    refine wpAny_pure ⟨_, rfl, .ref s.heap.objs.size, upd H s.heap.objs.size (.lst ws), ?_, rfl, hQ _ ws (I.hok.fresh (Nat.le_refl _)) rp hlw⟩
    refine I.laid (t' := s.toks) (fun b u q => ?_) (Nat.le_refl _) ⟨by omega, out, c, rv, hc⟩
    have hlt := Heap.lt_size q
    rw [PyProof.Rows.sortedHeap_old (Nat.ne_of_lt hlt) (by rw [PyProof.Rows.size_push']; exact Nat.lt_succ_of_lt hlt)]
    exact Heap.get?_push_of_some _ q
end
theorem perm_of {α : Type} [DecidableEq α] : ∀ {l ks : List α}, l.Nodup → (∀ x ∈ l, x ∈ ks) → ks.length ≤ l.length → ks.Perm l
  | [], ks, _, _, h => by
    have : ks = [] := List.length_eq_zero_iff.mp (Nat.le_zero.mp h)
    rw [this]
  | a :: l, ks, nd, sub, h => by
    have ha : a ∈ ks := sub a List.mem_cons_self
    have p : ks.Perm (a :: ks.erase a) := List.perm_cons_erase ha
    have hl := p.length_eq
    obtain ⟨n1, n2⟩ := List.nodup_cons.mp nd
    refine p.trans (List.Perm.cons a (perm_of n2 (fun x hx => ?_) ?_))
    · have hne : x ≠ a := fun e => n1 (e ▸ hx)
      exact (List.mem_erase_of_ne hne).mpr (sub x (List.mem_cons_of_mem _ hx))
    · simp only [List.length_cons] at h hl; omega
theorem leD1_str (x y : Str) : leD1 (.str x) (.str y) = decide (x.cps.toList ≤ y.cps.toList) := by
  have h := congrFun (congrFun (PySem.W.dataLe_str (β := Str) id) x) y
  exact h
theorem leD1_total : PySem.W.TotalLe leD1 := by
  show PySem.W.TotalLe (PySem.W.dataLe false pd)
  exact PySem.W.sortLe_total _ _ _
theorem str_ext {x y : Str} (h : x.cps.toList = y.cps.toList) : x = y := PySem.W.str_of_cps h
theorem leD1_anti {x y : Str} (h1 : leD1 (.str x) (.str y) = true) (h2 : leD1 (.str y) (.str x) = true) : x = y := by
  rw [leD1_str, decide_eq_true_eq] at h1 h2
  exact str_ext (List.le_antisymm h1 h2)
/-- texts in whatever turn are sorted alike -/
theorem sortD_perm {l l' : List Str} (p : l'.Perm l) : sortD (l'.map .str) = sortD (l.map .str) := by
  refine List.Perm.eq_of_pairwise (le := fun a b => leD1 a b = true) (fun a b ha hb h1 h2 => ?_) (PySem.W.sort_pairwise leD1_total _) (PySem.W.sort_pairwise leD1_total _) ?_
  · have ha' := (List.mergeSort_perm _ _).mem_iff.mp ha
    have hb' := (List.mergeSort_perm _ _).mem_iff.mp hb
    obtain ⟨x, _, rfl⟩ := List.mem_map.mp ha'
    obtain ⟨y, _, rfl⟩ := List.mem_map.mp hb'
    rw [leD1_anti h1 h2]
  · exact (List.mergeSort_perm _ _).trans ((p.map _).trans (List.mergeSort_perm _ _).symm)
def sortI (l : List Int) : List Int := l.mergeSort fun a b => decide (a ≤ b)
theorem sortI_of {l ns : List Int} (nd : l.Nodup) (hs : ns.Pairwise (· < ·)) (hm : ∀ k, k ∈ ns ↔ k ∈ l) : ns = sortI l := by
  have nd2 : ns.Nodup := hs.imp fun h => Int.ne_of_lt h
  have hp : ns.Perm l := (List.perm_ext_iff_of_nodup nd2 nd).mpr hm
  refine List.Perm.eq_of_pairwise (le := fun a b => a ≤ b) (fun a b _ _ h1 h2 => by omega) (hs.imp fun h => Int.le_of_lt h) ?_ (hp.trans (List.mergeSort_perm _ _).symm)
  have := List.pairwise_mergeSort (le := fun a b : Int => decide (a ≤ b)) (fun a b c h1 h2 => by simp at *; omega) (fun a b => by simp; omega) l
  exact this.imp fun h => of_decide_eq_true h
/-- what is sorted: items of a list, a tuple, a set -/
def sortedD : List D → Option RV
  | [.lst xs] => if sortOk xs then some (.fresh (.lst (sortD xs))) else none
  | [.tup xs] => if sortOk xs then some (.fresh (.lst (sortD xs))) else none
  | [.set xs] => if xs.length < 1000 then some (.fresh (.lst (sortD xs))) else none
  | [.iset l] => if l.length < 64 then some (.fresh (.lst ((sortI l).map .int))) else none
  | _ => none
theorem plains_strs : ∀ l : List Str, plains (l.map .str) = true
  | [] => rfl
  | x :: l => by simp only [List.map_cons, plains, plain, plains_strs l, Bool.and_self]
theorem deps_strs : ∀ l : List Str, deps (l.map .str) = 0
  | [] => rfl
  | x :: l => by simp only [List.map_cons, deps, dep, deps_strs l, Nat.max_self]
theorem sortOk_strs (l : List Str) : sortOk (l.map .str) = true := by
  simp only [sortOk, plains_strs, deps_strs, Bool.true_and, Bool.and_eq_true, Bool.or_eq_true, decide_eq_true_eq]
  refine ⟨⟨?_, .inr ?_⟩, Nat.zero_le _⟩
  · simp [PySem.W.alike, pd]
  · simp [isAtom]
section
variable {X : Cx} {g : Bg}
def rSrtQ (K : PySem.W.Frag) (mg : Mg) (xs : List V) (H : Hp) (Q : VK) : Prop := ∃ a F ds ws, xs = [.ref a] ∧ Sub F H ∧ (SqL K H a ws ∨ SqT K H a ws) ∧ Reps K mg F ds ws ∧ sortOk ds = true ∧ ∀ p us, H p = none → Reps K mg F (sortD ds) us → us.length = ds.length → Q (.ref p) (upd H p (.lst us))
theorem call_sorted (hK : X.K = g.K) (hu : X.A.units + 64 < cLine) : CallR X (.builtin "sorted") (rSrtQ g.K g.mg) := by
  intro pins s σ H xs us Q I r h
  obtain ⟨a, F, ds, ws, rfl, sF, hs, rp, ok, q⟩ := h
  obtain ⟨u, rfl, ru⟩ := Vals.one r
  cases ru
  rw [← hK] at hs
  refine Calls.call_function_entry PyProof.Rows.kind_sorted PyProof.Rows.plain_sorted PyProof.Rows.entry_sorted (PyProof.Rows.args_sorted1 _) ?_
  unfold Builtin.«sorted»
  refine wpAny_bind (m := checkCount "sorted" 1 1 _) (wpAny_pure ?_)
  have fin : ∀ (its : List Value) (h' : Heap), Vals ws its → (∀ b o', s.heap.get? b = some o' → h'.get? b = some o') → ws.length ≤ sizeLine →
      wpAny (model X.prog X.w) X.A.in1 (do let l ← newList its; let _ ← holding [l] (call (.builtin "list.sort") [l] []); ret l) (fun f s' => ∃ v, f = .done (.ret v) ∧ EP X pins σ Q v s') X.xe { s with heap := h' } := fun its h' rv kp hz =>
    sort_tail hK (I.kept (t' := s.toks) kp) sF (each_vd rv rp) ok (by rw [rp.len]; exact hz) (by show X.A.units + 1 + 60 < cLine; omega) q
  rcases hs with hs | hs
  · obtain ⟨its, rv, ⟨o, n, ho, hc, _, hd⟩, hz⟩ := I.list hs
    refine wpAny_bind (wpAny_collect_seq a (.inl rfl) ho hc hd (fun h' hk => ?_) (by rw [List.size_toArray, ← rv.length]; exact hz))
    exact fin _ h' (by simpa using rv) hk hz
  · obtain ⟨its, rv, ⟨o, ho, hc, n, hd⟩, hz⟩ := I.tuple hs
    refine wpAny_bind (wpAny_collect_seq a (.inr rfl) ho hc hd (fun h' hk => ?_) (by rw [List.size_toArray, ← rv.length]; exact hz))
    exact fin _ h' (by simpa using rv) hk hz

theorem tx_vals {m : Mg} {T : Froz.SD} {l : List Str} {out : List Value} (ok : Froz.TxOk m.P m.w T l) (nd : l.Nodup) (p : out.Perm (T.1.toList.map (·.2))) : ∃ ks : List Str, ks.Perm l ∧ Vals (ks.map V.str) out := by
  have each : ∀ v ∈ out, ∃ k u, v = Value.str k u ∧ k ∈ l := fun v hv => by
    obtain ⟨e, he, rfl⟩ := List.mem_map.mp (p.mem_iff.mp hv)
    obtain ⟨⟨k, hk, _⟩, _⟩ := ok.el e he
    have hm := (ok.mem k).mpr ⟨e, he, hk⟩
    have : Value.isStrOf k e.2 = true := hk
    revert this
    cases e.2 with
    | str z u => intro h; simp only [Value.isStrOf, beq_iff_eq] at h; exact ⟨z, u, rfl, by rw [h]; exact hm⟩
    | _ => intro h; simp [Value.isStrOf] at h
  have mk : ∀ o : List Value, (∀ v ∈ o, ∃ k u, v = Value.str k u ∧ k ∈ l) → ∃ ks : List Str, Vals (ks.map V.str) o ∧ ks.length = o.length ∧ ∀ k, k ∈ ks ↔ ∃ u, Value.str k u ∈ o := by
    intro o
    induction o with
    | nil => intro _; exact ⟨[], .nil, rfl, fun k => by simp⟩
    | cons v o ih =>
      intro h
      obtain ⟨ks, r, hl, hm⟩ := ih fun v hv => h v (List.mem_cons_of_mem _ hv)
      obtain ⟨k, u, rfl, _⟩ := h v List.mem_cons_self
      refine ⟨k :: ks, .cons ⟨u, rfl⟩ r, by simp [hl], fun k' => ?_⟩
      rw [List.mem_cons, hm]
      constructor
      · rintro (rfl | ⟨u', h'⟩)
        · exact ⟨u, List.mem_cons_self⟩
        · exact ⟨u', List.mem_cons_of_mem _ h'⟩
      · rintro ⟨u', h'⟩
        rcases List.mem_cons.mp h' with e | e
        · cases e; exact .inl rfl
        · exact .inr ⟨u', e⟩
  obtain ⟨ks, r, hl, hm⟩ := mk out each
  refine ⟨ks, perm_of nd (fun x hx => ?_) ?_, r⟩
  · obtain ⟨e, he, hk⟩ := (ok.mem x).mp hx
    refine (hm x).mpr ?_
    have h1 : Value.isStrOf x e.2 = true := hk
    have h2 : e.2 ∈ out := p.mem_iff.mpr (List.mem_map.mpr ⟨e, he, rfl⟩)
    revert h1 h2
    cases e.2 with
    | str z u => intro h h2; simp only [Value.isStrOf, beq_iff_eq] at h; exact ⟨u, by rw [← h]; exact h2⟩
    | _ => intro h; simp [Value.isStrOf] at h
  · have h1 := p.length_eq
    rw [List.length_map] at h1
    have h2 : T.1.toList.length = l.length := by rw [Array.length_toList]; exact ok.sz
    omega
theorem strs_rep {K : PySem.W.Frag} {mg : Mg} {F : Hp} : ∀ {ks : List Str}, (∀ k ∈ ks, k.length ≤ sizeLine ∧ PyData.strOk k = true) → Reps K mg F (ks.map .str) (ks.map V.str)
  | [], _ => Reps.nil
  | k :: ks, h => Reps.cons (by simp only [Rep]; exact ⟨trivial, h k List.mem_cons_self⟩) (strs_rep fun k' hk => h k' (List.mem_cons_of_mem _ hk))
theorem strs_rep_eq {K : PySem.W.Frag} {mg : Mg} {F : Hp} : ∀ {ks : List Str} {ws : List V}, Reps K mg F (ks.map .str) ws → ws = ks.map V.str
  | [], ws, h => by simpa [Reps] using h
  | k :: ks, ws, h => by
    simp only [List.map_cons, Reps, Rep] at h
    obtain ⟨v, r, rfl, ⟨rfl, _⟩, h2⟩ := h
    rw [strs_rep_eq h2]; rfl
def rSrtS (mg : Mg) (xs : List V) (H : Hp) (Q : VK) : Prop := ∃ a l, xs = [.ref a] ∧ H a = some (SetSO mg a l) ∧ l.Nodup ∧ l.length < 1000 ∧ (∀ k ∈ l, k.length ≤ sizeLine ∧ PyData.strOk k = true) ∧ ∀ (p : Addr) (ks : List Str), H p = none → (∀ k ∈ ks, k.length ≤ sizeLine ∧ PyData.strOk k = true) → ks.map D.str = sortD (l.map .str) → Q (.ref p) (upd H p (.lst (ks.map V.str)))
theorem strs_of_sort (l : List Str) : ∃ ks : List Str, ks.map D.str = sortD (l.map .str) ∧ ks.Perm l := by
  have h : ∀ d ∈ sortD (l.map D.str), ∃ x, d = D.str x := fun d hd => by
    obtain ⟨x, _, rfl⟩ := List.mem_map.mp ((List.mergeSort_perm _ _).mem_iff.mp hd)
    exact ⟨x, rfl⟩
  have gen : ∀ ds : List D, (∀ d ∈ ds, ∃ x, d = D.str x) → ∃ ks : List Str, ks.map D.str = ds := by
    intro ds
    induction ds with
    | nil => intro _; exact ⟨[], rfl⟩
    | cons d ds ih =>
      intro h
      obtain ⟨x, rfl⟩ := h d List.mem_cons_self
      obtain ⟨ks, e⟩ := ih fun d hd => h d (List.mem_cons_of_mem _ hd)
      exact ⟨x :: ks, by rw [List.map_cons, e]⟩
  obtain ⟨ks, e⟩ := gen _ h
  refine ⟨ks, e, ?_⟩
  have p : (ks.map D.str).Perm (l.map D.str) := by rw [e]; exact List.mergeSort_perm _ _
  have q := p.map (fun d : D => match d with | .str x => x | _ => Str.empty)
  rw [List.map_map, List.map_map] at q
  have e2 : ∀ m : List Str, m.map ((fun d : D => match d with | .str x => x | _ => Str.empty) ∘ D.str) = m := fun m => by
    induction m with
    | nil => rfl
    | cons x m ih => rw [List.map_cons, ih]; rfl
  rw [e2, e2] at q
  exact q
theorem call_sortedS (hK : X.K = g.K) (hG : md X = g.mg) (hc : X.calm = true) (hu : X.A.units + 64 < cLine) : CallR X (.builtin "sorted") (rSrtS g.mg) := by
  intro pins s σ H xs us Q I r h
  obtain ⟨a, l, rfl, hs, nd, hl, hgood, q⟩ := h
  obtain ⟨u, rfl, ru⟩ := Vals.one r
  cases ru
  obtain ⟨T, ho, ok, hr, hld⟩ := (show ∃ T : Froz.SD, s.heap.get? a = some (Froz.sObj "set" T) ∧ Froz.TxOk g.mg.P g.mg.w T l ∧ Ris T.2.2.place.toList ∧ (g.mg.w.params.followText "set-order" = true ∨ T.2.2.led = true) from (I.hok a _ hs).1)
  rw [← hG] at ok hld
  refine Calls.call_function_entry PyProof.Rows.kind_sorted PyProof.Rows.plain_sorted PyProof.Rows.entry_sorted (PyProof.Rows.args_sorted1 _) ?_
  unfold Builtin.«sorted»
  refine wpAny_bind (m := checkCount "sorted" 1 1 _) (wpAny_pure ?_)
  have hsz := ok.sz
  have hb : T.1.size < scanBound := by rw [hsz]; exact Nat.lt_of_lt_of_le hl (by decide)
  refine wpAny_bind (collect_set (A := X.A.in1) (I.ok.hd hc) ⟨_, ho, rfl, rfl⟩ ok.fit hb hr hld fun s1 out k1 hz g1 o1 pm => ?_)
  obtain ⟨ks, pk, rv⟩ := tx_vals ok nd pm
  have I1 : Inv X pins σ H s1 := I.call' (ch := []) o1 (Un.kept k1) (I.hok.kept k1) (by rw [g1]; exact I.bare) fun _ z => nomatch z
  have hlk : ks.length < 1000 := by rw [pk.length_eq]; exact hl
  have hsl : (1000 : Nat) ≤ sizeLine := by decide
  refine sort_tail (g := g) (F := fun _ => none) (ds := ks.map .str) hK I1 (fun _ _ z => nomatch z) (each_vd rv ?_) (sortOk_strs ks) (by rw [List.length_map]; omega) (by show X.A.units + 1 + 60 < cLine; omega) fun p ws hp rp hw => ?_
  · exact strs_rep fun k hk => hgood k (pk.mem_iff.mp hk)
  · obtain ⟨ks2, e2, p2⟩ := strs_of_sort ks
    rw [← e2] at rp
    have hw2 := strs_rep_eq rp
    subst hw2
    refine q p ks2 hp (fun k hk => hgood k (pk.mem_iff.mp (p2.mem_iff.mp hk))) ?_
    rw [e2, sortD_perm pk]
def rSrtI (mg : Mg) (xs : List V) (H : Hp) (Q : VK) : Prop := ∃ a l, xs = [.ref a] ∧ H a = some (SetIO mg a l) ∧ l.Nodup ∧ l.length < 64 ∧ ∀ p : Addr, H p = none → Q (.ref p) (upd H p (.lst ((sortI l).map V.int)))
theorem call_sortedI (hG : md X = g.mg) (hc : X.calm = true) : CallR X (.builtin "sorted") (rSrtI g.mg) := by
  intro pins s σ H vs us Q I r h
  obtain ⟨a, l, rfl, ha, nd, h64, q⟩ := h
  have R : SetR g.mg.w s.heap a (fun j => decide (j ∈ l)) l.length := (I.hok a _ ha).1
  rw [← hG] at R
  rw [Vals.ref1 r]
  refine sorted_set (show SetR X.w s.heap a (fun j => decide (j ∈ l)) l.length from R) (I.ok.hd hc) h64 fun s' p out c ns k g o hp hg hi hs hm hl => ?_
  have hlen : (ns.map V.int).length ≤ sizeLine := by rw [List.length_map, hl, sizeLine_eq]; omega
  have hn : H p = none := I.hok.fresh hp
  have J : Inv X pins σ (upd H p (.lst (ns.map V.int))) { s with heap := s'.heap, gens := s'.gens, drawn := s'.drawn, toks := s'.toks } :=
    I.call (ch := []) (Un.laid k hp hn) (I.hok.laid k hp ⟨hlen, out.toList, c, vals_of_ints hi, hg⟩) (by rw [g]; exact I.bare) (fun _ z => nomatch z)
  have e : s' = { s with heap := s'.heap, gens := s'.gens, drawn := s'.drawn, toks := s'.toks } := by
    cases s'
    cases s
    cases o
    rfl
  rw [e]
  have en : ns = sortI l := sortI_of nd hs fun k => by rw [hm]; simp
  rw [← en] at q
  exact ⟨.ref p, _, J, rfl, q p hn⟩
theorem ints_rep {K : PySem.W.Frag} {mg : Mg} {F : Hp} : ∀ ks : List Int, Reps K mg F (ks.map .int) (ks.map V.int)
  | [] => Reps.nil
  | k :: ks => Reps.cons (by simp only [Rep]) (ints_rep ks)
theorem cb_sorted (hK : X.K = g.K) (hG : md X = g.mg) (hc : X.calm = true) (hu : X.A.units + 64 < cLine) : Cb X g (.builtin "sorted") sortedD := by
  refine ⟨_, ((call_sorted hK hu).or (call_sortedS hK hG hc hu)).or (call_sortedI hG hc), fun T ρ σ H F ds vs rv Q R t e k => ?_⟩
  have sq : ∀ {xs : List D} {a : Addr} {ws : List V}, (SqL g.K H a ws ∨ SqT g.K H a ws) → Reps g.K g.mg F xs ws → ws.length ≤ sizeLine → sortOk xs = true → rv = .fresh (.lst (sortD xs)) → rSrtQ g.K g.mg [.ref a] H Q := fun {xs a ws} hs rp hz ok erv => by
    refine ⟨a, F, xs, ws, rfl, R.fz.sub, hs, rp, ok, fun p us hp rp2 hl => ?_⟩
    rw [erv] at k
    exact k _ _ F (Sub.refl F) (Res.newLst R rp2 (by rw [hl, rp.len]; exact hz) hp)
  unfold sortedD at e
  split at e
  · split at e
    · rename_i xs ok
      cases e
      obtain ⟨v, rfl, t1⟩ := t.one
      simp only [Top] at t1
      obtain ⟨a, ws, rfl, q, z, r⟩ := t1
      exact .inl (.inl (sq (.inl q.l) r z ok rfl))
    · cases e
  · split at e
    · rename_i xs ok
      cases e
      obtain ⟨v, rfl, t1⟩ := t.one
      simp only [Top, Rep] at t1
      obtain ⟨a, ws, rfl, q, z, r⟩ := t1
      exact .inl (.inl (sq (.inr (R.fz.sub.sqT q.t)) r z ok rfl))
    · cases e
  · split at e
    · rename_i xs hl
      cases e
      obtain ⟨v, rfl, t1⟩ := t.one
      simp only [Top] at t1
      obtain ⟨a, l, rfl, q, nd, hg, rfl⟩ := t1
      rw [List.length_map] at hl
      refine .inl (.inr ⟨a, l, rfl, q, nd, hl, hg, fun p ks hp hgk e2 => ?_⟩)
      rw [← e2] at k
      have hlen : ks.length = l.length := by
        have := congrArg List.length e2
        rw [List.length_map] at this
        rw [this, sortD, List.length_mergeSort, List.length_map]
      have hsl : (1000 : Nat) ≤ sizeLine := by decide
      exact k _ _ F (Sub.refl F) (Res.newLst R (strs_rep hgk) (by rw [List.length_map]; omega) hp)
    · cases e
  · split at e
    · rename_i l hl
      cases e
      obtain ⟨v, rfl, t1⟩ := t.one
      simp only [Top] at t1
      obtain ⟨a, rfl, q, nd⟩ := t1
      refine .inr ⟨a, l, rfl, q, nd, hl, fun p hp => ?_⟩
      have hsl : (64 : Nat) ≤ sizeLine := by decide
      have hls : (sortI l).length = l.length := List.length_mergeSort l
      exact k _ _ F (Sub.refl F) (Res.newLst R (ints_rep _) (by rw [List.length_map]; omega) hp)
    · cases e
  · cases e
end
end RF
end
section
/-! RC: comprehensions of any number of clauses, into lists, sets of texts, dicts. -/
namespace RF
open PySem L2

/-! ### the machine's side -/
/-- what stands inside a clause: from slots and heap to the heaps behind it -/
abbrev CB := St → Hp → (Hp → Prop) → Prop
/-- vs: the slots that it may change -/
structure PB (X : Cx) (inn : Sem PySem.Fin → Sem PySem.Fin) (vs : List Nat) (b : CB) : Prop where
  run : ∀ (pins : List (Addr × Obj)) (s : Shared) (σ : St) (H : Hp) (Nx : Hp → Prop) (k : Sem PySem.Fin) (Qf : PySem.Fin → Shared → Prop) (E : Value → Shared → Prop), Inv X pins σ H s → b σ H Nx →
    (∀ s' H', Inv X pins (wipe σ vs) H' s' → Nx H' → wpAny (model X.prog X.w) X.A k Qf E s') → wpAny (model X.prog X.w) X.A (inn k) Qf E s
def turnG (t i : Expr) (ifs : List Expr) (inn : Sem PySem.Fin → Sem PySem.Fin) (k : Sem PySem.Fin) (it : Value) (env : PySem.Env) : Sem PySem.Fin := do
  standAt i.pos
  match ← pyNext it with
  | none => pure (.done .next)
  | some v =>
    letOwnedTupleGo t it v
    assign t env v
    let ok ← forIn ifs true fun c r => if r = true then do let ok ← isTrue c env (eval c env); pure (ForInStep.yield ok) else pure (ForInStep.yield r)
    if ok = true then inn k else k
def bLoop (J : It) (g : TG) (tt : TT) (vs : List Nat) (body : CB) : CB := fun σ H1 Nx => ∃ W : Nat → Nat → Hp → Prop, (∃ m, W 0 m H1) ∧ ∀ i m H, W i m H →
  (J.stop i H ∧ Nx H) ∨ (J.go i H ∧ ∃ Nx1 : Hp → Prop, (∀ H', Nx1 H' → ∃ m', m' < m ∧ W (i + 1) m' H') ∧ ∀ x H', J.yld i H x H' → g x (wipe σ vs) H' fun σ2 H2 => wipe σ2 vs = wipe σ vs ∧ tt σ2 H2 fun b H3 =>
    if b = true then body σ2 H3 Nx1 else Nx1 H3)
def bCl (wi : TI) (g : TG) (tt : TT) (vs : List Nat) (body : CB) : CB := fun σ H Nx => wi σ H fun J H1 => bLoop J g tt vs body σ H1 Nx
inductive IsComp : Expr → Prop
  | lst {a : Expr} {gs : List Comprehension} {sc : Scope} {p : Pos} : IsComp (.ListComp a gs sc p)
  | set {a : Expr} {gs : List Comprehension} {sc : Scope} {p : Pos} : IsComp (.SetComp a gs sc p)
  | dic {a b : Expr} {gs : List Comprehension} {sc : Scope} {p : Pos} : IsComp (.DictComp a b gs sc p)
theorem loop_den {P : Program} {w : World} {A : Around} {e : Expr} {d : Nat} {it acc : Value} {env : PySem.Env} {Q : PySem.Fin → Shared → Prop} {E : Value → Shared → Prop} {s : Shared} (hc : IsComp e)
    (h : wpAny (model P w) A ((compTurn e d it acc env).onRaise (fun x => do noteFrame x env; theTreesLotGoes x)) Q E s) : wpAny (model P w) (A.under (.compLoop e d it acc env)) ((model P w).den (.compLoop e d it acc env)) Q E s := by
  cases hc <;> exact h
theorem start_den {P : Program} {w : World} {A : Around} {e : Expr} {d : Nat} {it acc : Value} {env : PySem.Env} {Q : PySem.Fin → Shared → Prop} {E : Value → Shared → Prop} {s : Shared} (hc : IsComp e)
    (h : wpAny (model P w) A ((compStart e d it acc env).onRaise (fun x => do noteFrame x env; standAt theWindowsPlace)) Q E s) : wpAny (model P w) (A.under (.compStart e d it acc env)) ((model P w).den (.compStart e d it acc env)) Q E s := by
  cases hc <;> exact h
theorem clause_loop {Y : Cx} {pins : List (Addr × Obj)} {σ : St} {H : Hp} {s : Shared} {Nx : Hp → Prop} {fp : List Addr} {tn : Nat → Heap → Prop} {J : It} {it : Addr} {e : Expr} {d : Nat} {acc : Value} {t i : Expr} {ifs : List Expr} {inn : Sem PySem.Fin → Sem PySem.Fin} {g : TG} {tt : TT} {body : CB} {vs vs' : List Nat} {R : Result → Shared → Prop}
    (hcm : IsComp e) (hx : Y.xe = fun _ _ => False) (hc : Y.calm = true) (hv : ∀ j ∈ vs', j ∈ vs)
    (hT : compTurn e d (.ref it) acc Y.env = turnG t i ifs inn (again (.compLoop e d (.ref it) acc Y.env)) (.ref it) Y.env)
    (pg : PG Y t g) (pt : PTs Y ifs tt) (pb : PB Y inn vs' body) (T : Turn Y.prog Y.w Y.K t J fp it tn) (st : tn 0 s.heap)
    (hf : ∀ {σ' : St} {H' : Hp} {s' : Shared}, Inv Y pins σ' H' s' → (∀ b ∈ fp, H' b = none) → ∀ b ∈ fp, FpOk Y pins H' b)
    (nf : ∀ b ∈ fp, H b = none) (I : Inv Y pins (wipe σ vs) H s) (h : bLoop J g tt vs body σ H Nx)
    (hR : ∀ s' H', Inv Y pins (wipe σ vs) H' s' → Nx H' → R (.ok .next) s') :
    codeAny (model Y.prog Y.w) Y.A (.compLoop e d (.ref it) acc Y.env) R s := by
  obtain ⟨W, ⟨m0, w0⟩, turn⟩ := h
  refine codeAny_loop rfl (fun n s' => ∃ i H', Inv Y pins (wipe σ vs) H' s' ∧ tn i s'.heap ∧ (∀ b ∈ fp, H' b = none) ∧ W i n H') (fun n s5 hI => ?_) m0 ⟨0, H, I, st, nf, w0⟩
  refine loop_den hcm (wpAny_noted ?_)
  rw [hT]
  unfold turnG
  obtain ⟨j, H5, I5, st5, n5, w5⟩ := hI
  refine wpAny_bind (wpAny_standAt (wpAny_bind ?_))
  rcases turn j n H5 w5 with ⟨stop, qq⟩ | ⟨go, Nx1, hNx, step⟩
  · refine thnF (T.done Y rfl rfl rfl hc j pins s5 _ H5 (fun _ _ => False) I5 (hf I5 n5) st5 stop) fun r s6 ⟨hr, I6⟩ => ?_
    subst hr
    exact wpAny_pure (hR s6 H5 I6 qq)
  · refine thnF (T.item Y rfl rfl rfl hc j pins s5 _ H5 (fun _ _ => False) I5 (hf I5 n5) st5 go) fun r s6 ⟨u, hr, h6⟩ => ?_
    subst hr
    refine wpAny_bind (thnF h6 fun _ s7 ⟨x, H7, I7, r7, y7, st7, n7⟩ => ?_)
    have I7' := I7.pinned (hf I7 n7) (T.obj _ _ st7)
    have pg1 := pg.run _ s7 _ H7 x u _ I7' r7 (step x H7 y7)
    rw [hx] at pg1
    refine wpAny_bind (thnF pg1 fun _ s8 ⟨σ8, H8, I8, hw8, q8⟩ => ?_)
    have pt1 := pt.run _ s8 σ8 H8 _ I8 q8
    rw [hx] at pt1
    refine wpAny_bind (thnF pt1 fun b s9 ⟨H9, I9, q9⟩ => ?_)
    have fin : ∀ {s' : Shared} {H' : Hp} {us : List Nat}, (∀ j ∈ us, j ∈ vs) → Inv Y (pins ++ pinsAt fp s7.heap) (wipe σ8 us) H' s' → Nx1 H' → ∃ m, m < n ∧ ∃ i H', Inv Y pins (wipe σ vs) H' s' ∧ tn i s'.heap ∧ (∀ b ∈ fp, H' b = none) ∧ W i m H' := fun {s' H' us} hu I' nx => by
      obtain ⟨m', hm, w'⟩ := hNx H' nx
      have pin' : ∀ b ∈ fp, ∀ o, s7.heap.get? b = some o → s'.heap.get? b = some o ∧ H' b = none := fun b hb o e =>
        let z := I'.pin (b, o) (List.mem_append_right _ (List.mem_append_right _ (mem_pinsAt hb e)))
        ⟨z.1, z.2.1⟩
      have hl : (wipe σ vs).length = (wipe σ8 us).length := by rw [wipe_length σ8 us, ← hw8, wipe_length]
      refine ⟨m', hm, j + 1, H', (I'.unpinned (pins := pins)).weak hl (fun k v e => ?_), T.keep _ _ _ st7 fun b hb o e => (pin' b hb o e).1, fun b hb => ?_, w'⟩
      · rw [← hw8] at e
        obtain ⟨e1, e2⟩ := wipe_some e
        rw [wipe_out fun z => e2 (hu k z)]
        exact e1
      · obtain ⟨o, e, _⟩ := T.obj _ _ st7 b hb
        exact (pin' b hb o e).2
    cases b with
    | false =>
      simp only [Bool.false_eq_true, if_false] at q9 ⊢
      exact wpAny_pure ⟨rfl, fin (us := []) (fun _ z => by cases z) I9 q9⟩
    | true =>
      simp only [if_true] at q9 ⊢
      exact pb.run _ s9 σ8 H9 Nx1 _ _ _ I9 q9 fun s' H' I' nx => wpAny_pure ⟨rfl, fin hv I' nx⟩
/-- a further clause's start -/
def enterG (e : Expr) (d : Nat) (i : Expr) (acc : Value) (env : PySem.Env) (k : Sem PySem.Fin) : Sem PySem.Fin := do
  let x ← eval i env
  standAt i.pos
  let x ← foldedSetIterable i env x
  let _ ← runOwn (.compStart e d (← holding [x] (pyIter x)) acc env) env
  k
/-- how a clause starts -/
def StartOk (P : Program) (w : World) (e : Expr) (d : Nat) : Prop := ∀ {A : Around} {R : Result → Shared → Prop} {s : Shared} {it acc : Value} {env : PySem.Env}, codeAny (model P w) A (.compLoop e d it acc env) R s →
  wpAny (model P w) A (pyIter it) (fun it' s' => codeAny (model P w) A (.compLoop e d it' acc env) R s') (notedBy (model P w) A env fun x s' => R (.error x) s') s →
  codeAny (model P w) A (.compStart e d it acc env) R s
theorem start_ok {P : Program} {w : World} {e : Expr} {d : Nat} {t i : Expr} {ifs : List Expr} (hcm : IsComp e) (h : (clausesOf e)[d]? = some ⟨t, i, ifs, 0⟩) : StartOk P w e d := by
  intro A R s it acc env h0 h1
  refine codeAny_of_tree ?_
  refine start_den hcm (wpAny_notedAt ?_)
  unfold compStart
  rw [h]
  show wpAny _ _ (ask >>= _) _ _ s
  refine wpAny_bind (wpAny_askSetting (wpAny_ite ?_))
  split
  · first
      | exact wpAny_bind (wpAny_pure (wpAny_pure (And.intro rfl h0)))
      | exact wpAny_pure (And.intro rfl h0)
  · first
      | exact wpAny_bind (wpAny_rule (wpAny_bind (wpAny_standAt (wpAny_bind (wpAny_mono h1 (fun it' s' h' => wpAny_pure (And.intro rfl h')) fun _ _ x => x)))))
      | (refine wpAny_bind (wpAny_rule ?_); show wpAny _ _ (standAt i.pos >>= _) _ _ s; exact wpAny_bind (wpAny_standAt (wpAny_bind (wpAny_mono h1 (fun it' s' h' => wpAny_pure (And.intro rfl h')) fun _ _ x => x))))
theorem pb_clause {Y : Cx} {e : Expr} {d : Nat} {acc : Value} {t i : Expr} {ifs : List Expr} {inn : Sem PySem.Fin → Sem PySem.Fin} {wi : TI} {g : TG} {tt : TT} {body : CB} {vs vs' : List Nat}
    (hcm : IsComp e) (hx : Y.xe = fun _ _ => False) (hc : Y.calm = true) (hv : ∀ j ∈ vs', j ∈ vs) (hst : StartOk Y.prog Y.w e d)
    (hT : ∀ it, compTurn e d it acc Y.env = turnG t i ifs inn (again (.compLoop e d it acc Y.env)) it Y.env)
    (hs : ∀ x, foldedSetIterable i Y.env x = pure x) (hi : PI Y t i wi) (pg : PG Y t g) (pt : PTs Y ifs tt) (pb : PB Y inn vs' body) :
    PB Y (enterG e d i acc Y.env) vs (bCl wi g tt vs body) := by
  refine ⟨fun pins s σ H Nx k Qf E I h hk => ?_⟩
  unfold enterG
  have hi1 := hi.run pins s σ H _ I h
  rw [hx] at hi1
  refine wpAny_bind (thnF hi1 fun xv s1 hx1 => wpAny_bind (wpAny_standAt (wpAny_bind (wpAny_of_eq (hs xv) (wpAny_bind (wpAny_holding (thnF hx1 fun itv s2 h2 => ?_)))))))
  obtain ⟨it, fp, tn, J, H2, e1, I2, T, st2, f2, q⟩ := h2
  subst e1
  refine wpAny_bind (wpAny_runOwn ?_)
  rw [Around.mark_none]
  have loop : codeAny (model Y.prog Y.w) Y.A (.compLoop e d (.ref it) acc Y.env) (fun r s' => match r with
      | .ok _ => ∃ H', Inv Y pins (wipe σ vs) H' s' ∧ Nx H'
      | .error _ => False) s2 :=
    clause_loop hcm hx hc hv (hT _) pg pt pb T st2 (fun {σ' H' s'} I' hn b hb => ⟨hn b hb, (f2 b hb).2⟩) (fun b hb => (f2 b hb).1) (I2.weak (wipe_length _ _) (fun j v e => (wipe_some e).1)) q fun s' H' I' nx => ⟨H', I', nx⟩
  refine codeAny_mono (hst loop (T.self Y.A 0 _ _ _ st2 loop)) fun r s' hr => ?_
  cases r with
  | ok f =>
    obtain ⟨H', I', nx⟩ := hr
    first
      | exact wpAny_bind (wpAny_pure (hk s' H' I' nx))
      | exact hk s' H' I' nx
  | error e => exact hr.elim
/-- the whole: newAcc makes the thing at D, as O in the heap -/
theorem comp_core {X : Cx} {pins : List (Addr × Obj)} {s : Shared} {σ : St} {H : Hp} {Q : VK} {e t i : Expr} {ifs : List Expr} {gs : List Comprehension} {scope : Scope} {own : List (Str × Nat)} {pos' : Pos} {newAcc : Sem Value} {O : Addr → HO} {wi : TI} {g : TG} {tt : TT} {body : Addr → CB} {vs' : List Nat} {inn : Value → PySem.Env → Sem PySem.Fin → Sem PySem.Fin} {use : Option (Value → Sem Unit)} {Qf : Value → Shared → Prop}
    (hcm : IsComp e) (hc : X.calm = true) (hN : X.N.Nodup) (I : Inv X pins σ H s) (hi : PI X t i wi) (ok : BlkOk X.N X.env.scope scope own) (hv : ∀ j ∈ vs', j ∈ own.map (·.2)) (hcl : clausesOf e = ⟨t, i, ifs, 0⟩ :: gs)
    (hnew : ∀ {H2 : Hp} {s2 : Shared} {Qn : Value → Shared → Prop}, Inv X pins σ H2 s2 → (∀ s3, Inv X pins σ (upd H2 s2.heap.objs.size (O s2.heap.objs.size)) s3 → s3.heap.objs.size = s2.heap.objs.size + 1 → (∀ b o, s2.heap.get? b = some o → s3.heap.get? b = some o) → Qn (.ref s2.heap.objs.size) s3) → wpAny (model X.prog X.w) X.A newAcc Qn X.xe s2)
    (hT : ∀ it acc env, compTurn e 0 it (.ref acc) env = turnG t i ifs (inn (.ref acc) env) (again (.compLoop e 0 it (.ref acc) env)) it env)
    (hg : ∀ (s : Shared) (H : Hp) (C : Addr) (cl : List (Str × Addr)) (fp : List Addr), PG (X.blk s H scope (compEnvC scope cl C X.env) fp) t g) (ht : ∀ (s : Shared) (H : Hp) (C : Addr) (cl : List (Str × Addr)) (fp : List Addr), PTs (X.blk s H scope (compEnvC scope cl C X.env) fp) ifs tt)
    (hb : ∀ (s : Shared) (H : Hp) (C : Addr) (cl : List (Str × Addr)) (fp : List Addr) (D : Addr), PB (X.blk s H scope (compEnvC scope cl C X.env) fp) (inn (.ref D) (compEnvC scope cl C X.env)) vs' (body D)) (hs : ∀ x, foldedSetIterable i X.env x = pure x)
    (h : wi σ H fun J H1 => ∀ D, H1 D = none → bLoop J g tt (own.map (·.2)) (body D) σ (upd H1 D (O D)) fun H' => Q (.ref D) H')
    (hRR : ∀ D C s' m H', Inv X pins σ H' s' → Q (.ref D) H' → s'.heap.Ns C m → FpOk X pins H' C → compPost (model X.prog X.w) X.A X.xe use Qf (.ref D) C (.ok .next) s') :
    wpAny (model X.prog X.w) X.A (comprehension e scope X.env pos' newAcc false (eval i X.env) use) Qf X.xe s := by
  have hfree : ∀ y ∈ scope.names, y.2 = .free → ∃ c, X.env.cells.lookup y.1 = some c := fun y hy e => by
    rcases ok.free y hy e with k | k
    · exact I.ok.has _ (.inl k)
    · exact I.ok.has _ (.inr k)
  refine wpAny_comprehension_free (use := use) hcl hs (closure_ok hfree) ok.kind (fun y hy e => by rw [ok.uniq y hy, e])
    (thn (hi.run pins s σ H _ I h) fun xv s1 hx => thn hx fun itv s2 h2 => ?_)
  obtain ⟨it, fp, tn, J, H2, e1, I2, T, st2, f2, q⟩ := h2
  subst e1
  refine hnew I2 fun s3 I3 hsz kp => newEnv_comp ?_
  generalize hD : s2.heap.objs.size = D at I3 hsz
  have hDn : H2 D = none := I2.hok.fresh (Nat.le_of_eq hD)
  have q := q D hDn
  have sz : ∀ b ∈ fp, b < s2.heap.objs.size := fun b hb => by
    obtain ⟨o, e, _⟩ := T.obj _ _ st2 b hb
    exact Heap.lt_size e
  have f3 : ∀ b ∈ fp, FpOk X pins (upd H2 D (O D)) b ∧ b < s3.heap.objs.size := fun b hb => by
    have hlt := sz b hb
    refine ⟨⟨?_, (f2 b hb).2⟩, by rw [hsz, ← hD]; exact Nat.lt_succ_of_lt hlt⟩
    rw [upd_ne (by rw [← hD]; exact Nat.ne_of_lt hlt)]
    exact (f2 b hb).1
  have st3 : tn 0 s3.heap := T.keep _ _ _ st2 fun b _ o e => kp b o e
  have I4 := block_start I3 ok hN f3
  have pg := hg s3 (upd H2 D (O D)) s3.heap.objs.size (cellsFrom (s3.heap.objs.size + 1) scope.names (cloFrom X.env.cells scope.names [])) fp
  have pt := ht s3 (upd H2 D (O D)) s3.heap.objs.size (cellsFrom (s3.heap.objs.size + 1) scope.names (cloFrom X.env.cells scope.names [])) fp
  have pb := hb s3 (upd H2 D (O D)) s3.heap.objs.size (cellsFrom (s3.heap.objs.size + 1) scope.names (cloFrom X.env.cells scope.names [])) fp D
  show codeAny _ _ (.compStart e 0 (.ref it) (.ref D) (compEnvC scope (cellsFrom (s3.heap.objs.size + 1) scope.names (cloFrom X.env.cells scope.names [])) s3.heap.objs.size X.env)) (compPost (model X.prog X.w) X.A X.xe use Qf (.ref D) s3.heap.objs.size) { s3 with heap := pushCells (s3.heap.push { cls := .type "dict", data := .dict #[] }) scope.names }
  have nfp : ∀ b ∈ fp, (upd H2 D (O D)) b = none := fun b hb => (f3 b hb).1.1
  generalize hce : compEnvC scope (cellsFrom (s3.heap.objs.size + 1) scope.names (cloFrom X.env.cells scope.names [])) s3.heap.objs.size X.env = ce at I4 pg pt pb ⊢
  have cL : ce.locals = s3.heap.objs.size := by subst hce; rfl
  generalize hH3 : upd H2 D (O D) = H3 at I3 I4 pg pt pb q nfp f3
  generalize hs4 : ({ s3 with heap := pushCells (s3.heap.push { cls := .type "dict", data := .dict #[] }) scope.names } : Shared) = s4 at I4 ⊢
  have st4 : tn 0 s4.heap := T.keep _ _ _ st3 fun b _ o e => by rw [← hs4]; exact pushCells_keeps _ _ _ _ (Heap.get?_push_of_some _ e)
  have stat : ∀ {σ' : St} {H' : Hp} {s' : Shared}, Inv (X.blk s3 H3 scope ce fp) [] σ' H' s' → (∀ b ∈ fp, H' b = none) → ∀ b ∈ fp, FpOk (X.blk s3 H3 scope ce fp) [] H' b := fun {σ' H' s'} I' hn b hb =>
    ⟨hn b hb, (I'.ok.exf b hb).1, I'.ok.exfs b hb, .inl hb, fun x c e => (I'.ok.exf b hb).2 x c e, fun p hp => absurd (show p ∈ ([] : List (Addr × Obj)) ++ [] from hp) (by simp)⟩
  have loop : codeAny (model X.prog X.w) X.A (.compLoop e 0 (.ref it) (.ref D) ce) (compPost (model X.prog X.w) X.A X.xe use Qf (.ref D) s3.heap.objs.size) s4 := by
    refine clause_loop (Y := X.blk s3 H3 scope ce fp) hcm rfl hc hv (hT _ _ _) pg pt pb T st4 stat nfp I4 q fun s6 H5 I6 qq => ?_
    have I7 : Inv X pins σ H5 s6 := I3.call' (ch := fp) I6.os I6.base I6.hok I6.bare fun b hb => ⟨(f3 b hb).1.2.2.2.1, (f3 b hb).1.2.1, (f3 b hb).1.2.2.2.2.1, (f3 b hb).1.2.2.2.2.2⟩
    have nC : H5 s3.heap.objs.size = none := by
      have z : H5 ce.locals = none := I6.free
      rw [cL] at z
      exact z
    obtain ⟨m, hn, _⟩ := I6.loc
    have hn : s6.heap.Ns ce.locals m := hn
    rw [cL] at hn
    exact hRR D s3.heap.objs.size s6 m H5 I7 qq hn (I3.fpOk (Nat.le_refl _) nC)
  exact start_ok hcm (by rw [hcl]; rfl) loop (T.self X.A 0 _ _ _ st4 loop)
end RF
end
section
/-! RC2: .. what they compute. -/
namespace RF
open PySem L2

/-! ### what is put in -/
def emL (elt : Expr) (acc : Value) (env : PySem.Env) (k : Sem PySem.Fin) : Sem PySem.Fin := (do let _ ← call (.builtin "list.append") [acc, ← eval elt env]) >>= fun _ => k
def emS (elt : Expr) (acc : Value) (env : PySem.Env) (k : Sem PySem.Fin) : Sem PySem.Fin := (do let v ← eval elt env; standAt elt.pos; let _ ← call (.builtin "set.add") [acc, v]) >>= fun _ => k
def emD (kx vx : Expr) (D : Addr) (env : PySem.Env) (k : Sem PySem.Fin) : Sem PySem.Fin := (do
  let kv ← eval kx env
  let vv ← holding [kv] (eval vx env)
  standAt { kx.pos with endLine := vx.pos.endLine, endCol := vx.pos.endCol }
  holding [kv, vv] (dictSet D kv vv)) >>= fun _ => k
def bEmL (te : TE) (D : Addr) : CB := fun σ H Nx => te σ H fun y H4 => ∃ acc, H4 D = some (.lst acc) ∧ acc.length < sizeLine ∧ Nx (upd H4 D (.lst (acc ++ [y])))
def bEmS (m : Mg) (te : TE) (D : Addr) : CB := fun σ H Nx => te σ H fun y H4 => ∃ k l, y = .str k ∧ H4 D = some (SetSO m D l) ∧ l.length < 900 ∧ Nx (upd H4 D (SetSO m D (ins1 k l)))
def bEmD (tk tv : TE) (D : Addr) : CB := fun σ H Nx => tk σ H fun y H4 => tv σ H4 fun z H5 => ∃ kvs k, y = kV k ∧ H5 D = some (.dK kvs) ∧ kvs.length < sizeLine ∧ Nx (upd H5 D (.dK (putK kvs k z)))
theorem pb_emL {Y : Cx} {elt : Expr} {te : TE} {D : Addr} (hx : Y.xe = fun _ _ => False) (pe : PE Y elt te) : PB Y (emL elt (.ref D) Y.env) [] (bEmL te D) := by
  refine ⟨fun pins s σ H Nx k Qf E I h hk => ?_⟩
  unfold emL
  have p1 := pe.run pins s σ H _ I h
  rw [hx] at p1
  refine wpAny_bind (wpAny_bind (thnF p1 fun z s4 ⟨y, H4, I4, r4, acc, hD, hz, nx⟩ => wpAny_bind (app_ok I4 hD hz r4 fun s5 I5 => wpAny_pure (hk s5 _ I5 nx))))
theorem set_stable {m : Mg} {a : Addr} {l : List Str} : ∀ h1 h2 : Heap, TxR m h1 a l → (∀ o, h1.get? a = some o → h2.get? a = some o) → TxR m h2 a l := fun h1 h2 ⟨T, e, r⟩ k => ⟨T, k _ e, r⟩
theorem pb_emS {Y : Cx} {elt : Expr} {te : TE} {D : Addr} {m : Mg} (hm : md Y = m) (hx : Y.xe = fun _ _ => False) (pe : PE Y elt te) : PB Y (emS elt (.ref D) Y.env) [] (bEmS m te D) := by
  refine ⟨fun pins s σ H Nx k Qf E I h hk => ?_⟩
  unfold emS
  subst hm
  have p1 := pe.run pins s σ H _ I h
  rw [hx] at p1
  refine wpAny_bind (wpAny_bind (thnF p1 fun z s4 ⟨y, H4, I4, r4, kk, l, ey, hD, hz, nx⟩ => ?_))
  subst ey
  obtain ⟨u, rfl⟩ : ∃ u, z = .str kk u := r4
  obtain ⟨tx, ⟨o, eo⟩, st⟩ := I4.hok D _ hD
  have tx : TxR (md Y) s4.heap D l := tx
  have h9 : (901 : Nat) < scanBound := by decide
  refine wpAny_bind (wpAny_standAt (wpAny_bind (TxR.add (m := md Y) tx (by omega) fun h' sb tx' => wpAny_pure (hk _ _ ?_ nx))))
  have he : ∃ q, h'.get? D = some q := by obtain ⟨T', e', _⟩ := tx'; exact ⟨_, e'⟩
  exact (I4.tok _).write (t' := s4.toks + 1) (by rw [hD]; exact True.intro) (.inl rfl) (fun b u hb q => (sb.2 b hb).trans q) he ⟨tx', he, set_stable⟩
theorem pb_emD {Y : Cx} {kx vx : Expr} {tk tv : TE} {D : Addr} (hx : Y.xe = fun _ _ => False) (pk : PE Y kx tk) (pv : PE Y vx tv) : PB Y (emD kx vx D Y.env) [] (bEmD tk tv D) := by
  refine ⟨fun pins s σ H Nx k Qf E I h hk => ?_⟩
  unfold emD
  have p1 := pk.run pins s σ H _ I h
  rw [hx] at p1
  refine wpAny_bind (wpAny_bind (thnF p1 fun z s4 ⟨y, H4, I4, r4, q4⟩ => ?_))
  have p2 := pv.run pins s4 σ H4 _ I4 q4
  rw [hx] at p2
  refine wpAny_bind (wpAny_holding (thnF p2 fun z2 s5 ⟨y2, H5, I5, r5, kvs, kk, ek, hD, hz, nx⟩ => ?_))
  subst ek
  exact wpAny_bind (wpAny_standAt (wpAny_holding (d_dictSet I5 hD hz r4 r5 fun s6 I6 => hk s6 _ I6 nx)))
/-! ### what is made at first -/
section
variable {X : Cx} {pins : List (Addr × Obj)} {σ : St}
theorem new_lst {H2 : Hp} {s2 : Shared} {Qn : Value → Shared → Prop} (I2 : Inv X pins σ H2 s2) (k : ∀ s3, Inv X pins σ (upd H2 s2.heap.objs.size (.lst [])) s3 → s3.heap.objs.size = s2.heap.objs.size + 1 → (∀ b o, s2.heap.get? b = some o → s3.heap.get? b = some o) → Qn (.ref s2.heap.objs.size) s3) :
    wpAny (model X.prog X.w) X.A (newList []) Qn X.xe s2 := by
  refine wpAny_newObj_type ?_ (by show 0 ≤ sizeLine; decide)
  refine k _ (I2.laid (t' := s2.toks) (fun b o e => Heap.get?_push_of_some _ e) (Nat.le_refl _) ⟨Nat.zero_le _, [], 0, .nil, Heap.get?_push_size _ rfl⟩) (Heap.size_push ..) fun b o e => Heap.get?_push_of_some _ e
theorem new_dic {H2 : Hp} {s2 : Shared} {Qn : Value → Shared → Prop} (I2 : Inv X pins σ H2 s2) (k : ∀ s3, Inv X pins σ (upd H2 s2.heap.objs.size (.dK [])) s3 → s3.heap.objs.size = s2.heap.objs.size + 1 → (∀ b o, s2.heap.get? b = some o → s3.heap.get? b = some o) → Qn (.ref s2.heap.objs.size) s3) :
    wpAny (model X.prog X.w) X.A newDict Qn X.xe s2 := by
  refine wpAny_newObj_type ?_
  exact k _ (I2.laid (t' := s2.toks) (fun b o e => Heap.get?_push_of_some _ e) (Nat.le_refl _) (dk_empty s2.heap I2.big)) (Heap.size_push ..) fun b o e => Heap.get?_push_of_some _ e
theorem txr_new {m : Mg} {h : Heap} : TxR m (h.push { cls := .type "set", dict := none, data := .set #[] 0 (.fresh 0 0 (!m.w.params.followText "set-order")) }) h.objs.size [] :=
  ⟨(#[], 0, .fresh 0 0 (!m.w.params.followText "set-order")), Heap.get?_push_size _ rfl, Froz.TxOk.nil (by rfl), List.Pairwise.nil, by
    show _ ∨ (!m.w.params.followText "set-order") = true
    cases m.w.params.followText "set-order"
    · exact .inr rfl
    · exact .inl rfl⟩
theorem new_set {m : Mg} (hm : md X = m) {H2 : Hp} {s2 : Shared} {Qn : Value → Shared → Prop} (I2 : Inv X pins σ H2 s2) (k : ∀ s3, Inv X pins σ (upd H2 s2.heap.objs.size (SetSO m s2.heap.objs.size [])) s3 → s3.heap.objs.size = s2.heap.objs.size + 1 → (∀ b o, s2.heap.get? b = some o → s3.heap.get? b = some o) → Qn (.ref s2.heap.objs.size) s3) :
    wpAny (model X.prog X.w) X.A (newSet (.type "set")) Qn X.xe s2 := by
  subst hm
  refine PpSet.newSet_ok ?_
  exact k _ (I2.laid (t' := s2.toks) (fun b o e => Heap.get?_push_of_some _ e) (Nat.le_refl _) ⟨txr_new (m := md X), ⟨_, Heap.get?_push_size _ rfl⟩, set_stable⟩) (Heap.size_push ..) fun b o e => Heap.get?_push_of_some _ e
end
/-! ### the pure side -/
structure Cl where
  it : MI
  k : Tg
  t : MT
  vs : List Nat
def loopC (inner : D → Env → R D) (c : Cl) : List D → D → Env → R D
  | [], acc, ρ => .ok acc ρ
  | d :: ds, acc, ρ => lift (c.k.put d ρ) fun ρ1 => (c.t ρ1).bind fun b ρ2 => match b with
    | true => (inner acc ρ2).bind fun acc' ρ3 => loopC inner c ds acc' (wipeE ρ3 c.vs)
    | false => loopC inner c ds acc (wipeE ρ2 c.vs)
def goC (em : D → Env → R D) : List Cl → D → Env → R D
  | [] => em
  | c :: cs => fun acc ρ => (c.it ρ).bind fun xs ρ1 => loopC (goC em cs) c xs acc (wipeE ρ1 c.vs)
def eComp (new : D) (em : D → Env → R D) (c : Cl) (cs : List Cl) : ME := fun ρ => (c.it ρ).bind fun xs ρ1 => match plainAt ρ1 c.vs with
  | true => (calmly (loopC (goC em cs) c xs new (wipeE ρ1 c.vs))).bind fun acc ρ2 => .ok (.fresh acc) (backE ρ1 ρ2 c.vs)
  | false => .no
def pushD : D → D → Option D
  | .lst xs, y => if xs.length < cap then some (.lst (xs ++ [y])) else none
  | _, _ => none
def addD1 : D → Str → Option D
  | .set xs, k => match strsD xs with
    | some l => if l.length < 900 then some (.set ((ins1 k l).map .str)) else none
    | none => none
  | _, _ => none
def emLp (m : ME) (acc : D) (ρ : Env) : R D := (eKeep m ρ).bind fun o ρ1 => lift (asV o) fun y => lift (pushD acc y) fun acc' => .ok acc' ρ1
def emSp (m : ME) (acc : D) (ρ : Env) : R D := (eKeep m ρ).bind fun o ρ1 => lift (asS o) fun k => lift (addD1 acc k) fun acc' => .ok acc' ρ1
def emDp (mk mv : ME) (acc : D) (ρ : Env) : R D := (eKeep mk ρ).bind fun o ρ1 => lift (asV o) fun kd => (eKeep mv ρ1).bind fun o2 ρ2 => lift (asV o2) fun v => lift (putDic acc kd v) fun acc' => .ok acc' ρ2

def FinC (g : Bg) (T : List (Addr × D)) (A : Addr) (τ : St) (Nx : Hp → Prop) (F : Hp) : R D → Prop
  | .ok acc ρ2 => ∀ H' F', Sub F F' → Rl g ((A, acc) :: T) ρ2 τ H' F' → Nx H'
  | _ => False
theorem FinC.mono {g : Bg} {T : List (Addr × D)} {A : Addr} {τ : St} {Nx : Hp → Prop} {F F' : Hp} {r : R D} (s : Sub F F') (h : FinC g T A τ Nx F r) : FinC g T A τ Nx F' r := by
  cases r with
  | ok ys ρ2 => exact fun H' F'' s' => h H' F'' (s.trans s')
  | ex _ _ => exact h
  | no => exact h
def RdB (g : Bg) (A : Addr) (vs : List Nat) (b : CB) (inn : D → Env → R D) : Prop := ∀ (T : List (Addr × D)) (ρ : Env) (F : Hp) (σ : St) (H : Hp) (acc : D) (Nx : Hp → Prop), Rl g ((A, acc) :: T) ρ σ H F → FinC g T A (L2.wipe σ vs) Nx F (inn acc ρ) → b σ H Nx
theorem wipe_in {j : Nat} : ∀ {υ : St} {ws : List Nat}, j ∈ ws → j < υ.length → (L2.wipe υ ws)[j]? = some none
  | _, [], h, _ => by cases h
  | υ, w :: ws, h, hl => by
    unfold L2.wipe
    by_cases ew : w = j
    · subst ew; rw [List.getElem?_set_self (by rw [wipe_length]; exact hl)]
    · rw [List.getElem?_set_ne ew]
      rcases List.mem_cons.mp h with z | z
      · exact absurd z.symm ew
      · exact wipe_in z hl
theorem wipe_eq {vs : List Nat} {τ τ' : St} (h1 : τ.length = τ'.length) (h2 : ∀ j, j ∉ vs → τ[j]? = τ'[j]?) : L2.wipe τ vs = L2.wipe τ' vs := by
  refine List.ext_getElem? fun j => ?_
  by_cases hv : j ∈ vs
  · by_cases hb : j < τ.length
    · rw [wipe_in hv hb, wipe_in hv (by rw [← h1]; exact hb)]
    · rw [List.getElem?_eq_none (by rw [wipe_length]; omega), List.getElem?_eq_none (by rw [wipe_length]; omega)]
  · rw [wipe_out' hv, wipe_out' hv, h2 j hv]
section
variable {g : Bg} {W : WX} {A : Addr} {b : CB} {inner : D → Env → R D} {c : Cl} {vs' : List Nat} {T : List (Addr × D)} {ρ : Env} {σ : St} {H F F1 H1 : Hp} {acc : D} {Nx : Hp → Prop} {J : It} {xs : List D}
theorem rd_loop (hk : ∀ j ∈ c.k.ix, j ∈ c.vs) (hv : ∀ j ∈ vs', j ∈ c.vs) (hb : RdB g A vs' b inner) (iok : ItOk g F1 J xs) (R1 : Rl g ((A, acc) :: T) ρ (L2.wipe σ c.vs) H1 F1)
    (p : FinC g T A (L2.wipe σ c.vs) Nx F1 (loopC inner c xs acc ρ)) : bLoop J (tgT g.K c.k) (rdT g W0 c.t) c.vs b σ H1 Nx := by
  refine ⟨fun i n H => n = xs.length - i ∧ i ≤ xs.length ∧ ∃ ρ F acc, Sub F1 F ∧ Rl g ((A, acc) :: T) ρ (L2.wipe σ c.vs) H F ∧ FinC g T A (L2.wipe σ c.vs) Nx F (loopC inner c (xs.drop i) acc ρ),
    ⟨xs.length, by simp, Nat.zero_le _, ρ, F1, acc, Sub.refl _, R1, p⟩, ?_⟩
  rintro i n H ⟨rfl, hi, ρ, F, acc, sF, R, p⟩
  obtain ⟨ks, kg⟩ := iok _ ρ _ H F sF R
  by_cases hlt : i < xs.length
  · have hx : xs[i]? = some xs[i] := by simp [hlt]
    obtain ⟨go, yl⟩ := kg i xs[i] hx
    refine .inr ⟨go, fun H' => ∃ ρ F acc, Sub F1 F ∧ Rl g ((A, acc) :: T) ρ (L2.wipe σ c.vs) H' F ∧ FinC g T A (L2.wipe σ c.vs) Nx F (loopC inner c (xs.drop (i + 1)) acc ρ), fun H' h => ⟨xs.length - (i + 1), by omega, rfl, hlt, h⟩, fun x H' y => ?_⟩
    obtain ⟨F2, s2, R2, rp⟩ := yl x H' y
    rw [List.drop_eq_getElem_cons hlt] at p
    simp only [loopC] at p
    cases e2 : c.k.put xs[i] ρ with
    | none => simp only [e2, lift] at p; exact p.elim
    | some ρ2 =>
      simp only [e2, lift] at p
      refine tgT_ok R2 rp e2 fun σ2 R' hj hl => ?_
      have wp : L2.wipe σ2 c.vs = L2.wipe σ c.vs := wipe_eq (by rw [hl, wipe_length]) fun j hv => by rw [hj j (fun z => hv (hk j z)), wipe_out' hv]
      refine ⟨wp, _, ρ2, F2, R', ?_⟩
      have p := p.mono s2
      cases e3 : c.t ρ2 with
      | no => simp only [e3, RF.R.bind] at p; exact p.elim
      | ex x ρ3 => simp only [e3, RF.R.bind] at p; exact p.elim
      | ok k ρ3 =>
        simp only [e3, RF.R.bind] at p
        intro H3 F3 s3 R3
        cases k with
        | false =>
          rw [if_neg (by decide)]
          refine ⟨wipeE ρ3 c.vs, F3, acc, (sF.trans s2).trans s3, ?_, p.mono s3⟩
          rw [← wp]; exact R3.wipe c.vs
        | true =>
          rw [if_pos rfl]
          refine hb T ρ3 F3 σ2 H3 acc _ R3 ?_
          have p := p.mono s3
          cases e4 : inner acc ρ3 with
          | no => simp only [e4] at p; exact p.elim
          | ex x ρ4 => simp only [e4] at p; exact p.elim
          | ok acc' ρ4 =>
            simp only [e4] at p
            intro H4 F4 s4 R4
            refine ⟨wipeE ρ4 c.vs, F4, acc', ((sF.trans s2).trans s3).trans s4, ?_, p.mono s4⟩
            have w2 : L2.wipe (L2.wipe σ2 vs') c.vs = L2.wipe σ c.vs := by
              rw [← wp]
              exact wipe_eq (wipe_length _ _) fun j hj => wipe_out' fun z => hj (hv j z)
            rw [← w2]; exact R4.wipe c.vs
  · have e0 : i = xs.length := by omega
    subst e0
    rw [List.drop_length] at p
    exact .inl ⟨ks _ (Nat.le_refl _), p H F (Sub.refl F) R⟩
theorem rd_clause {em : D → Env → R D} {cs : List Cl} (hk : ∀ j ∈ c.k.ix, j ∈ c.vs) (hv : ∀ j ∈ vs', j ∈ c.vs) (hb : RdB g A vs' b (goC em cs)) : RdB g A c.vs (bCl (rdI g W0 c.it) (tgT g.K c.k) (rdT g W0 c.t) c.vs b) (goC em (c :: cs)) := by
  intro T ρ F σ H acc Nx R p
  simp only [goC] at p
  refine ⟨_, ρ, F, R, ?_⟩
  cases e1 : c.it ρ with
  | no => simp only [e1, RF.R.bind] at p; exact p.elim
  | ex x ρ1 => simp only [e1, RF.R.bind] at p; exact p.elim
  | ok xs ρ1 =>
    simp only [e1, RF.R.bind] at p
    intro J H1 F1 s1 R1 iok hxs
    exact rd_loop hk hv hb iok (R1.wipe c.vs) (p.mono s1)
theorem rdComp {Q : VK} {em : D → Env → R D} {cs : List Cl} {new : D} {O : Addr → HO} {bb : Addr → CB} (hO : ∀ (H F : Hp) (D : Addr), At g.K g.mg (upd H D (O D)) F new D) (hk : ∀ j ∈ c.k.ix, j ∈ c.vs) (hv : ∀ j ∈ vs', j ∈ c.vs) (hb : ∀ A, RdB g A vs' (bb A) (goC em cs))
    (q : rdE g W (eComp new em c cs) σ H Q) : rdI g W c.it σ H fun J H1 => ∀ A, H1 A = none → bLoop J (tgT g.K c.k) (rdT g W0 c.t) c.vs (bb A) σ (upd H1 A (O A)) fun H' => Q (.ref A) H' := by
  obtain ⟨T, ρ, F, R, q⟩ := q
  refine ⟨T, ρ, F, R, ?_⟩
  simp only [eComp] at q
  cases e1 : c.it ρ with
  | no => simp only [e1, RF.R.bind] at q
  | ex x ρ1 => simp only [e1, RF.R.bind] at q; exact q
  | ok xs ρ1 =>
    simp only [e1, RF.R.bind] at q
    intro J H1 F1 s1 R1 iok hxs A hA
    cases hp : plainAt ρ1 c.vs with
    | false => simp only [hp] at q
    | true =>
      simp only [hp] at q
      refine rd_loop (acc := new) hk hv (hb A) iok ((R1.wipe c.vs).laidT hA (hO _ _ _)) ?_
      cases e2 : loopC (goC em cs) c xs new (wipeE ρ1 c.vs) with
      | no => simp only [e2, calmly] at q
      | ex x ρ2 => simp only [e2, calmly] at q
      | ok acc ρ2 =>
        simp only [e2, calmly] at q
        intro H2 F2 s2 R2
        exact q (.ref A) H2 F2 (s1.trans s2) ⟨A, rfl, R2.back R1 s2 hp⟩
/-- a temporary is changed -/
theorem Rl.swapT {a : Addr} {c c' : D} {o : HO} (R : Rl g ((a, c) :: T) ρ σ H F) (at' : At g.K g.mg (upd H a o) F c' a) : Rl g ((a, c') :: T) ρ σ (upd H a o) F := by
  have t := R.tm _ List.mem_cons_self
  obtain ⟨n, n0, _⟩ := t
  have hb : a ∉ g.B := fun hb => by
    obtain ⟨_, ⟨u, e⟩, _⟩ := R.fz.bor a hb
    rw [n0] at e; cases e
  refine ⟨⟨fun b u q => ?_, R.fz.f0, R.fz.new, fun b u q hb' => ?_, R.fz.par, fun b hb' => ?_⟩, R.len, fun i sv q => ?_, fun p hp => ?_, R.inj, R.sep, R.nd⟩
  · rw [upd_ne (fun z : b = a => by rw [z, n] at q; cases q)]; exact R.fz.sub b u q
  · rw [upd_ne (fun z : b = a => by rw [z, n0] at q; cases q)]; exact R.fz.keep b u q hb'
  · have ne : b ≠ a := fun z => hb (by rw [← z]; exact hb')
    rw [upd_ne ne]; exact R.fz.bor b hb'
  · obtain ⟨v, hv, z⟩ := R.sl i sv q
    refine ⟨v, hv, z.move (Sub.refl F) fun b eb mb => ?_⟩
    subst eb
    have ow : Ow ρ σ i b := ⟨sv, q, mb, hv⟩
    exact ⟨upd_ne (fun z => R.sep i b ow (by rw [z]; simp)), (R.ow ow).2⟩
  · rcases List.mem_cons.mp hp with rfl | hp
    · exact ⟨n, n0, at'⟩
    · have t := R.tm p (List.mem_cons_of_mem _ hp)
      have ne : p.1 ≠ a := fun z => (List.nodup_cons.mp R.nd).1 (by
        show a ∈ _
        rw [← z]; exact List.mem_map_of_mem hp)
      exact t.move (upd_ne ne) (Sub.refl F) t.1
end
end RF
end
section
/-! RC3: the rules of comprehensions. -/
namespace RF
open PySem L2
section
variable {g : Bg} {A : Addr} {m mk mv : ME} {K : PySem.W.Frag} {mg : Mg} {F : Hp}
theorem rdb_L : RdB g A [] (bEmL (rdE g W0 (eKeep m)) A) (emLp m) := by
  intro T ρ F σ H acc Nx R p
  refine ⟨_, ρ, F, R, ?_⟩
  simp only [emLp] at p
  cases e : eKeep m ρ with
  | no => simp only [e, RF.R.bind] at p; exact p.elim
  | ex x ρ1 => simp only [e, RF.R.bind] at p; exact p.elim
  | ok o ρ1 =>
    simp only [e, RF.R.bind] at p
    obtain ⟨d, rfl⟩ := asV_keep e
    simp only [asV, lift] at p
    intro y H4 F4 s4 r4
    cases acc with
    | lst ds =>
      simp only [pushD] at p
      split at p
      · rename_i e2
        split at e2
        · rename_i hl
          cases e2
          obtain ⟨acc', ea, la, R5⟩ := r4.1.growT r4.2 (Nat.lt_of_lt_of_le hl cap_line)
          exact ⟨acc', ea, la, p _ F4 s4 R5⟩
        · cases e2
      · exact p.elim
    | _ => simp only [pushD] at p; exact p.elim
theorem strsD_map : ∀ l : List Str, strsD (l.map D.str) = some l
  | [] => rfl
  | s :: l => by simp only [List.map_cons, strsD, strsD_map l, Option.map_some]
theorem rdb_S : RdB g A [] (bEmS g.mg (rdE g W0 (eKeep m)) A) (emSp m) := by
  intro T ρ F σ H acc Nx R p
  refine ⟨_, ρ, F, R, ?_⟩
  simp only [emSp] at p
  cases e : eKeep m ρ with
  | no => simp only [e, RF.R.bind] at p; exact p.elim
  | ex x ρ1 => simp only [e, RF.R.bind] at p; exact p.elim
  | ok o ρ1 =>
    simp only [e, RF.R.bind] at p
    obtain ⟨d, rfl⟩ := asV_keep e
    cases ek : asS (.val d) with
    | none => simp only [ek, lift] at p; exact p.elim
    | some k =>
      have ek' := asS_some ek
      injection ek' with ek'; subst ek'
      simp only [ek, lift] at p
      intro y H4 F4 s4 r4
      obtain ⟨R4, rp⟩ := r4
      simp only [Rep] at rp
      obtain ⟨rfl, hlen, hok⟩ := rp
      cases acc with
      | set xs =>
        have t := (R4.tm _ List.mem_cons_self).2.2
        simp only [At] at t
        obtain ⟨l, eH, nd, hall, rfl⟩ := t
        simp only [addD1, strsD_map] at p
        split at p
        · rename_i e2
          split at e2
          · rename_i hl
            cases e2
            refine ⟨k, l, rfl, eH, hl, p _ F4 s4 (R4.swapT ?_)⟩
            simp only [At]
            refine ⟨ins1 k l, upd_same, ins1_nodup nd, fun z hz => ?_, rfl⟩
            rcases ins1_mem.mp hz with rfl | hz
            · exact ⟨hlen, hok⟩
            · exact hall z hz
          · cases e2
        · exact p.elim
      | _ => simp only [addD1] at p; exact p.elim
theorem rdb_D : RdB g A [] (bEmD (rdE g W0 (eKeep mk)) (rdE g W0 (eKeep mv)) A) (emDp mk mv) := by
  intro T ρ F σ H acc Nx R p
  refine ⟨_, ρ, F, R, ?_⟩
  simp only [emDp] at p
  cases e : eKeep mk ρ with
  | no => simp only [e, RF.R.bind] at p; exact p.elim
  | ex x ρ1 => simp only [e, RF.R.bind] at p; exact p.elim
  | ok o ρ1 =>
    simp only [e, RF.R.bind] at p
    obtain ⟨kd, rfl⟩ := asV_keep e
    simp only [asV, lift] at p
    intro y H4 F4 s4 r4
    refine ⟨_, ρ1, F4, r4.1, ?_⟩
    cases e2 : eKeep mv ρ1 with
    | no => simp only [e2] at p; exact p.elim
    | ex x ρ2 => simp only [e2] at p; exact p.elim
    | ok o2 ρ2 =>
      simp only [e2] at p
      obtain ⟨d, rfl⟩ := asV_keep e2
      simp only [asV] at p
      intro z H5 F5 s5 r5
      cases acc with
      | dic ks ds =>
        simp only [putDic] at p
        cases ek : keysD ks with
        | none => rw [ek] at p; exact p.elim
        | some l =>
          cases ekd : keyD kd with
          | none => rw [ek, ekd] at p; exact p.elim
          | some k =>
            simp only [ek, ekd] at p
            split at p
            · rename_i e3
              split at e3
              · rename_i hl
                cases e3
                have rk : Rep g.K g.mg F5 kd y := Rep.mono s5 _ _ r4.2
                obtain ⟨rfl, e4⟩ := key_rep ekd rk
                obtain ⟨kvs, eH, el, at'⟩ := At.put rk e4 r5.2 (r5.1.tm _ List.mem_cons_self).2.2 ek
                refine ⟨kvs, k, rfl, eH, by rw [el]; exact Nat.lt_of_lt_of_le hl cap_line, p _ F5 (s4.trans s5) (r5.1.swapT (at' _))⟩
              · cases e3
            · exact p.elim
      | _ => simp only [putDic] at p; exact p.elim
end
/-! ### the rules -/
section
variable {X : Cx} {g : Bg} {W : WX} {elt kx vx t0 i0 t1 i1 t2 i2 : Expr} {f0 f1 f2 : List Expr} {m mk mv : ME} {c0 c1 c2 : Cl} {pos spos py : Pos} {scope : Scope} {own : List (Str × Nat)} {y : Str} {j : Nat}
/-- a clause's parts in the block -/
structure ClOk (X : Cx) (scope : Scope) (g : Bg) (t : Expr) (ifs : List Expr) (c : Cl) : Prop where
  hg : ∀ s H C cl fp, SG (X.blk s H scope (compEnvC scope cl C X.env) fp) g t c.k
  ht : ∀ s H C cl fp, STs (X.blk s H scope (compEnvC scope cl C X.env) fp) g W0 ifs c.t
  hk : ∀ j ∈ c.k.ix, j ∈ c.vs
structure ClIn (X : Cx) (scope : Scope) (g : Bg) (t i : Expr) (c : Cl) : Prop where
  hi : ∀ s H C cl fp, SI (X.blk s H scope (compEnvC scope cl C X.env) fp) g W0 t i c.it
  hs : notSetE i = true
theorem compEq {Y : Cx} {env : PySem.Env} (h : Y.env = env) {e : Expr} {d : Nat} {acc : Value} {k : Sem PySem.Fin} {i : Expr} : enterG e d i acc env k = enterG e d i acc Y.env k := by rw [h]
/-- what is used of a new thing: as a value, or given to a name -/
abbrev NewK (X : Cx) (pins : List (Addr × Obj)) (σ : St) (Q : VK) (use : Option (Value → Sem Unit)) (Qf : Value → Shared → Prop) : Prop :=
  ∀ D C s' m H', Inv X pins σ H' s' → Q (.ref D) H' → s'.heap.Ns C m → FpOk X pins H' C → compPost (model X.prog X.w) X.A X.xe use Qf (.ref D) C (.ok .next) s'
theorem newK_val {pins : List (Addr × Obj)} {σ : St} {Q : VK} : NewK X pins σ Q none (EP X pins σ Q) := fun D C s' m H' I' q hn f => by
  obtain ⟨f0, f1, f2, f3, f4, f5⟩ := f
  exact ⟨m, hn, fun h'' sb => ⟨.ref D, H', I'.turned (t' := s'.toks) (fun b o hb e => (sb.2 b hb).trans e) f0 f1 f3 f4 f5, rfl, q⟩⟩
theorem newK_set {pins : List (Addr × Obj)} {σ : St} {E : Ends} (hN : X.N.Nodup) (hy : X.N[j]? = some y) (hyl : X.env.scope.names.lookup y = some .local) :
    NewK X pins σ (fun x H1 => gName j x σ H1 E.nx) (some (assign (.Name y py) X.env)) (fun _ s' => SP X pins E .next s') := fun L C s' m H' I' q hn f => by
  show wpAny _ _ (assign (.Name y py) X.env (.ref L)) _ _ _
  refine wpAny_assign_Name (store_ok2 (v := V.ref L) I' hN hy (.inl hyl) rfl (fun s2 I2 ⟨a, sb, ha⟩ => ?_) (.inr hyl))
  obtain ⟨f0, f1, f2, f3, f4, f5⟩ := f
  have haC : C ≠ a := by
    rcases ha with z | z
    · rw [z]; exact f1
    · exact fun e => f4 y a z e.symm
  refine ⟨m, hn.sameBut sb haC, fun h3 sb3 => ?_⟩
  exact ⟨_, H', I2.turned (t' := s2.toks) (fun b o hb e => (sb3.2 b hb).trans e) f0 f1 f3 f4 f5, q⟩
/-- a comprehension: however it is used -/
structure PCp (X : Cx) (g : Bg) (W : WX) (e : Expr) (scope : Scope) (newAcc : Sem Value) (i : Expr) (m : ME) : Prop where
  run : ∀ {pins : List (Addr × Obj)} {s : Shared} {σ : St} {H : Hp} {Q : VK} {use : Option (Value → Sem Unit)} {Qf : Value → Shared → Prop} {pos' : Pos}, Inv X pins σ H s → rdE g W m σ H Q → NewK X pins σ Q use Qf →
    wpAny (model X.prog X.w) X.A (comprehension e scope X.env pos' newAcc false (eval i X.env) use) Qf X.xe s
theorem cp_lc2 (hc : X.calm = true) (hN : X.N.Nodup) (ok : BlkOk X.N X.env.scope scope own) (hv0 : c0.vs = own.map (·.2)) (h01 : ∀ j ∈ c1.vs, j ∈ c0.vs) (hi : SI X g W t0 i0 c0.it) (hs : notSetE i0 = true) (o0 : ClOk X scope g t0 f0 c0) (o1 : ClOk X scope g t1 f1 c1) (n1 : ClIn X scope g t1 i1 c1)
    (he : ∀ s H C cl fp, SE (X.blk s H scope (compEnvC scope cl C X.env) fp) g W0 elt m) :
    PCp X g W (.ListComp elt [⟨t0, i0, f0, 0⟩, ⟨t1, i1, f1, 0⟩] scope pos) scope (newList []) i0 (eComp (.lst []) (emLp m) c0 [c1]) := by
  refine ⟨fun {pins s σ H Q use Qf pos'} I q hRR => ?_⟩
  refine comp_core (O := fun _ => .lst []) (vs' := c1.vs) (inn := fun acc env => enterG (.ListComp elt [⟨t0, i0, f0, 0⟩, ⟨t1, i1, f1, 0⟩] scope pos) 1 i1 acc env) .lst hc hN I hi ok (by rw [← hv0]; exact h01) rfl (fun I2 k => new_lst I2 k) (fun it acc env => by rfl) o0.hg o0.ht
    (fun s H C cl fp D => pb_clause (Y := X.blk s H scope (compEnvC scope cl C X.env) fp) (inn := emL elt (.ref D) (compEnvC scope cl C X.env)) (vs' := []) .lst rfl hc (fun _ z => by cases z) (start_ok .lst rfl) (fun it => by rfl) (folded_ok n1.hs) (n1.hi s H C cl fp) (o1.hg s H C cl fp) (o1.ht s H C cl fp) (pb_emL rfl (SE.keep (he s H C cl fp))))
    (folded_ok hs) ?_ hRR
  rw [← hv0]
  exact rdComp (O := fun _ => .lst []) (new := .lst []) (fun H F D => by simp only [At]; exact ⟨[], upd_same, Nat.zero_le _, Reps.nil⟩) o0.hk h01 (fun A => rd_clause o1.hk (fun _ z => by cases z) rdb_L) q
theorem cp_sc2 (hG : md X = g.mg) (hc : X.calm = true) (hN : X.N.Nodup) (ok : BlkOk X.N X.env.scope scope own) (hv0 : c0.vs = own.map (·.2)) (h01 : ∀ j ∈ c1.vs, j ∈ c0.vs) (hi : SI X g W t0 i0 c0.it) (hs : notSetE i0 = true) (o0 : ClOk X scope g t0 f0 c0) (o1 : ClOk X scope g t1 f1 c1) (n1 : ClIn X scope g t1 i1 c1)
    (he : ∀ s H C cl fp, SE (X.blk s H scope (compEnvC scope cl C X.env) fp) g W0 elt m) :
    PCp X g W (.SetComp elt [⟨t0, i0, f0, 0⟩, ⟨t1, i1, f1, 0⟩] scope pos) scope (newSet (.type "set")) i0 (eComp (.set []) (emSp m) c0 [c1]) := by
  refine ⟨fun {pins s σ H Q use Qf pos'} I q hRR => ?_⟩
  refine comp_core (O := fun a => SetSO g.mg a []) (vs' := c1.vs) (inn := fun acc env => enterG (.SetComp elt [⟨t0, i0, f0, 0⟩, ⟨t1, i1, f1, 0⟩] scope pos) 1 i1 acc env) .set hc hN I hi ok (by rw [← hv0]; exact h01) rfl (fun I2 k => new_set hG I2 k) (fun it acc env => by rfl) o0.hg o0.ht
    (fun s H C cl fp D => pb_clause (Y := X.blk s H scope (compEnvC scope cl C X.env) fp) (inn := emS elt (.ref D) (compEnvC scope cl C X.env)) (vs' := []) .set rfl hc (fun _ z => by cases z) (start_ok .set rfl) (fun it => by rfl) (folded_ok n1.hs) (n1.hi s H C cl fp) (o1.hg s H C cl fp) (o1.ht s H C cl fp) (pb_emS (m := g.mg) hG rfl (SE.keep (he s H C cl fp))))
    (folded_ok hs) ?_ hRR
  rw [← hv0]
  exact rdComp (O := fun a => SetSO g.mg a []) (new := .set []) (fun H F D => by simp only [At]; exact ⟨[], upd_same, List.nodup_nil, fun _ z => (by cases z), rfl⟩) o0.hk h01 (fun A => rd_clause o1.hk (fun _ z => by cases z) rdb_S) q
theorem cp_dc1 (hc : X.calm = true) (hN : X.N.Nodup) (ok : BlkOk X.N X.env.scope scope own) (hv0 : c0.vs = own.map (·.2)) (hi : SI X g W t0 i0 c0.it) (hs : notSetE i0 = true) (o0 : ClOk X scope g t0 f0 c0)
    (hk : ∀ s H C cl fp, SE (X.blk s H scope (compEnvC scope cl C X.env) fp) g W0 kx mk) (he : ∀ s H C cl fp, SE (X.blk s H scope (compEnvC scope cl C X.env) fp) g W0 vx mv) :
    PCp X g W (.DictComp kx vx [⟨t0, i0, f0, 0⟩] scope pos) scope newDict i0 (eComp (.dic [] []) (emDp mk mv) c0 []) := by
  refine ⟨fun {pins s σ H Q use Qf pos'} I q hRR => ?_⟩
  refine comp_core (O := fun _ => .dK []) (vs' := []) (inn := fun acc env => emD kx vx (match acc with | .ref D => D | _ => 0) env) .dic hc hN I hi ok (fun _ z => by cases z) rfl (fun I2 k => new_dic I2 k) (fun it acc env => by rfl) o0.hg o0.ht
    (fun s H C cl fp D => pb_emD (Y := X.blk s H scope (compEnvC scope cl C X.env) fp) rfl (SE.keep (hk s H C cl fp)) (SE.keep (he s H C cl fp)))
    (folded_ok hs) ?_ hRR
  rw [← hv0]
  exact rdComp (O := fun _ => .dK []) (new := .dic [] []) (fun H F D => by simp only [At]; exact ⟨[], upd_same, Reps.nil, Reps.nil⟩) o0.hk (fun _ z => by cases z) (fun A => rdb_D) q
theorem cp_dc3 (hc : X.calm = true) (hN : X.N.Nodup) (ok : BlkOk X.N X.env.scope scope own) (hv0 : c0.vs = own.map (·.2)) (h01 : ∀ j ∈ c1.vs, j ∈ c0.vs) (h12 : ∀ j ∈ c2.vs, j ∈ c1.vs) (hi : SI X g W t0 i0 c0.it) (hs : notSetE i0 = true) (o0 : ClOk X scope g t0 f0 c0) (o1 : ClOk X scope g t1 f1 c1) (n1 : ClIn X scope g t1 i1 c1)
    (o2 : ClOk X scope g t2 f2 c2) (n2 : ClIn X scope g t2 i2 c2)
    (hk : ∀ s H C cl fp, SE (X.blk s H scope (compEnvC scope cl C X.env) fp) g W0 kx mk) (he : ∀ s H C cl fp, SE (X.blk s H scope (compEnvC scope cl C X.env) fp) g W0 vx mv) :
    PCp X g W (.DictComp kx vx [⟨t0, i0, f0, 0⟩, ⟨t1, i1, f1, 0⟩, ⟨t2, i2, f2, 0⟩] scope pos) scope newDict i0 (eComp (.dic [] []) (emDp mk mv) c0 [c1, c2]) := by
  refine ⟨fun {pins s σ H Q use Qf pos'} I q hRR => ?_⟩
  refine comp_core (O := fun _ => .dK []) (vs' := c1.vs) (inn := fun acc env => enterG (.DictComp kx vx [⟨t0, i0, f0, 0⟩, ⟨t1, i1, f1, 0⟩, ⟨t2, i2, f2, 0⟩] scope pos) 1 i1 acc env) .dic hc hN I hi ok (by rw [← hv0]; exact h01) rfl (fun I2 k => new_dic I2 k) (fun it acc env => by rfl) o0.hg o0.ht
    (fun s H C cl fp D => pb_clause (Y := X.blk s H scope (compEnvC scope cl C X.env) fp) (inn := enterG (.DictComp kx vx [⟨t0, i0, f0, 0⟩, ⟨t1, i1, f1, 0⟩, ⟨t2, i2, f2, 0⟩] scope pos) 2 i2 (.ref D) (compEnvC scope cl C X.env)) (vs' := c2.vs) .dic rfl hc h12 (start_ok .dic rfl) (fun it => by rfl) (folded_ok n1.hs) (n1.hi s H C cl fp) (o1.hg s H C cl fp) (o1.ht s H C cl fp)
      (pb_clause (Y := X.blk s H scope (compEnvC scope cl C X.env) fp) (inn := emD kx vx D (compEnvC scope cl C X.env)) (vs' := []) .dic rfl hc (fun _ z => by cases z) (start_ok .dic rfl) (fun it => by rfl) (folded_ok n2.hs) (n2.hi s H C cl fp) (o2.hg s H C cl fp) (o2.ht s H C cl fp)
        (pb_emD rfl (SE.keep (hk s H C cl fp)) (SE.keep (he s H C cl fp)))))
    (folded_ok hs) ?_ hRR
  rw [← hv0]
  exact rdComp (O := fun _ => .dK []) (new := .dic [] []) (fun H F D => by simp only [At]; exact ⟨[], upd_same, Reps.nil, Reps.nil⟩) o0.hk h01 (fun A => rd_clause o1.hk h12 (rd_clause o2.hk (fun _ z => by cases z) rdb_D)) q
theorem SE.lc2 {gs : List Comprehension} (h : PCp X g W (.ListComp elt (⟨t0, i0, f0, 0⟩ :: gs) scope pos) scope (newList []) i0 m) : SE X g W (.ListComp elt (⟨t0, i0, f0, 0⟩ :: gs) scope pos) m := by
  refine ⟨fun pins s σ H Q I q => ?_⟩
  rw [eval_ListComp]
  exact h.run I q newK_val
theorem SE.sc2 {gs : List Comprehension} (h : PCp X g W (.SetComp elt (⟨t0, i0, f0, 0⟩ :: gs) scope pos) scope (newSet (.type "set")) i0 m) : SE X g W (.SetComp elt (⟨t0, i0, f0, 0⟩ :: gs) scope pos) m := by
  refine ⟨fun pins s σ H Q I q => ?_⟩
  rw [arm_eval_SetComp]
  exact h.run I q newK_val
theorem SE.dc {gs : List Comprehension} (h : PCp X g W (.DictComp kx vx (⟨t0, i0, f0, 0⟩ :: gs) scope pos) scope newDict i0 m) : SE X g W (.DictComp kx vx (⟨t0, i0, f0, 0⟩ :: gs) scope pos) m := by
  refine ⟨fun pins s σ H Q I q => ?_⟩
  rw [arm_eval_DictComp]
  exact h.run I q newK_val
theorem SS.setLc2 {gs : List Comprehension} (hN : X.N.Nodup) (hy : X.N[j]? = some y) (hyl : X.env.scope.names.lookup y = some .local) (hsw : swapsWith (.ListComp elt (⟨t0, i0, f0, 0⟩ :: gs) scope pos) (some (.Name y py)) spos.line X.env = pure true)
    (h : PCp X g W (.ListComp elt (⟨t0, i0, f0, 0⟩ :: gs) scope pos) scope (newList []) i0 m) : SS X g W (.Assign [.Name y py] (.ListComp elt (⟨t0, i0, f0, 0⟩ :: gs) scope pos) spos) (sSet j m) := by
  refine SS.setBy ⟨fun pins s σ H E I q => ?_⟩
  rw [exec_Assign_Name_used _ _ _ _ hsw]
  refine wpAny_bind (wpAny_standAt (wpAny_bind ?_))
  show wpAny _ X.A (do let _ ← comprehension (.ListComp elt (⟨t0, i0, f0, 0⟩ :: gs) scope pos) scope X.env (firstIterPos (⟨t0, i0, f0, 0⟩ :: gs) pos) (newList []) false (eval i0 X.env) (some (assign (.Name y py) X.env))) _ _ s
  exact wpAny_bind (thn (h.run I q (newK_set (E := E) hN hy hyl)) fun _ s' hq => wpAny_pure (wpAny_pure hq))
theorem SS.setDc {gs : List Comprehension} (hN : X.N.Nodup) (hy : X.N[j]? = some y) (hyl : X.env.scope.names.lookup y = some .local) (hsw : swapsWith (.DictComp kx vx (⟨t0, i0, f0, 0⟩ :: gs) scope pos) (some (.Name y py)) spos.line X.env = pure true)
    (h : PCp X g W (.DictComp kx vx (⟨t0, i0, f0, 0⟩ :: gs) scope pos) scope newDict i0 m) : SS X g W (.Assign [.Name y py] (.DictComp kx vx (⟨t0, i0, f0, 0⟩ :: gs) scope pos) spos) (sSet j m) := by
  refine SS.setBy ⟨fun pins s σ H E I q => ?_⟩
  rw [exec_Assign_Name_used _ _ _ _ hsw]
  refine wpAny_bind (wpAny_standAt (wpAny_bind ?_))
  show wpAny _ X.A (do let _ ← comprehension (.DictComp kx vx (⟨t0, i0, f0, 0⟩ :: gs) scope pos) scope X.env (firstIterPos (⟨t0, i0, f0, 0⟩ :: gs) pos) newDict false (eval i0 X.env) (some (assign (.Name y py) X.env))) _ _ s
  exact wpAny_bind (thn (h.run I q (newK_set (E := E) hN hy hyl)) fun _ s' hq => wpAny_pure (wpAny_pure hq))
end
end RF
end
section
/-! RD: dicts. -/
namespace RF
open PySem L2
def eDic0 : ME := fun ρ => .ok (.fresh (.dic [] [])) ρ
def eDic1 (mk mv : ME) : ME := fun ρ => (eKeep mk ρ).bind fun o ρ1 => lift (asV o) fun kd => (eKeep mv ρ1).bind fun o2 ρ2 => lift (asV o2) fun v => lift (keyD kd) fun _ => .ok (.fresh (.dic [kd] [v])) ρ2
section
variable {X : Cx} {g : Bg} {W : WX} {k v : Expr} {mk mv : ME} {pos : Pos}
theorem At.dic0 {K : PySem.W.Frag} {mg : Mg} {H F : Hp} {p : Addr} : At K mg (upd H p (.dK [])) F (.dic [] []) p := by
  simp only [At]; exact ⟨[], upd_same, Reps.nil, Reps.nil⟩
theorem SE.dic0 : SE X g W (.Dict [] [] pos) eDic0 := PEimp pe_dnewK fun σ H Q q p hp => by
  obtain ⟨T, ρ, F, R, q⟩ := q
  exact q (.ref p) _ F (Sub.refl F) ⟨p, rfl, R.laidT hp At.dic0⟩
theorem SE.dic1 (hk : SE X g W k mk) (hv : SE X g W v mv) : SE X g W (.Dict [some k] [v] pos) (eDic1 mk mv) :=
  PEimp (pe_disp (pps_cons (SE.keep hk) (SE.keep hv) pps_nil) rfl rfl (by simp) (by simp)) fun σ H Q q p hp => by
    obtain ⟨T, ρ, F, R, q⟩ := q
    have R1 := R.laidT hp (At.dic0 (K := g.K) (mg := g.mg) (F := F))
    refine ⟨_, ρ, F, R1, ?_⟩
    simp only [eDic1] at q
    cases e1 : eKeep mk ρ with
    | no => simp only [e1, RF.R.bind] at q
    | ex x ρ1 => simp only [e1, RF.R.bind] at q; exact q
    | ok o ρ1 =>
      simp only [e1, RF.R.bind] at q
      obtain ⟨kd, rfl⟩ := asV_keep e1
      simp only [asV, lift] at q
      intro y H1 F1 s1 r1
      refine ⟨_, ρ1, F1, r1.1, ?_⟩
      cases e2 : eKeep mv ρ1 with
      | no => simp only [e2] at q
      | ex x ρ2 => simp only [e2] at q; exact q.mono s1
      | ok o2 ρ2 =>
        simp only [e2] at q
        obtain ⟨d, rfl⟩ := asV_keep e2
        simp only [asV] at q
        intro z H2 F2 s2 r2
        cases ek : keyD kd with
        | none => simp only [ek] at q
        | some kk =>
          simp only [ek] at q
          have rk : Rep g.K g.mg F2 kd y := Rep.mono s2 _ _ r1.2
          obtain ⟨rfl, e4⟩ := key_rep ek rk
          obtain ⟨kvs, eH, el, at'⟩ := At.put (l := []) rk e4 r2.2 (r2.1.tm _ List.mem_cons_self).2.2 rfl
          cases kvs with
          | cons p kvs => simp at el
          | nil =>
            refine ⟨eH, [(kk, z)], rfl, by simp, ?_⟩
            have R3 := r2.1.swapT (at' _)
            refine q (.ref p) _ F2 (s1.trans s2) ⟨p, rfl, ?_⟩
            have hc : (D.dic ((putP kk d [] []).1.map keyOf) (putP kk d [] []).2) = .dic [kd] [d] := by rw [e4]; rfl
            rw [← hc]; exact R3
end
end RF
end
section
/-! RU: a, *b = a tuple. -/
namespace RF
open PySem L2
section
variable {prog : Program} {w : World} {A : Around} {E : Value → Shared → Prop} {s : Shared}
theorem walks_shift {I : Addr} {fp wr : List Addr} {G : Array GenState → Array GenState → Prop} {n : Nat} {P : Nat → Value → Prop} {St : Nat → Shared → Prop} (W : WalksS prog w A I fp wr G (n + 1) P St) :
    WalksS prog w A I fp wr G n (fun i => P (i + 1)) (fun i => St (i + 1)) where
  sub := W.sub
  grefl := W.grefl
  gtrans := W.gtrans
  frame := fun i => W.frame (i + 1)
  item := fun i s Q E hi => W.item (i + 1) s Q E (by omega)
  done := W.done
  self := fun i => W.self (i + 1)
theorem unpack_star {t : Addr} {items : Array Value} {x : Value} {xs : List Value} {Q : List Value → Shared → Prop} (hh : A.handled = none) (ht : s.heap.IsTuple t items) (hx : items.toList = x :: xs) (hz : items.size ≤ sizeLine)
    (hQ : ∀ (h' : Heap) (tk : Nat), (∀ b o, s.heap.get? b = some o → h'.get? b = some o) → Q [x, .ref h'.objs.size] { s with heap := h'.push { cls := .type "list", data := .seq xs.toArray }, toks := tk }) :
    wpAny (model prog w) A (unpackItems (.ref t) 2 (some 1)) Q E s := by
  have hlt : t < s.heap.objs.size := by obtain ⟨o, ho, _⟩ := ht; exact Heap.lt_size ho
  have hsz : items.size = xs.length + 1 := by rw [← Array.length_toList, hx]; rfl
  unfold unpackItems
  refine wpAny_bind ?_
  unfold notIterableAtAll
  refine wpAny_bind (wpAny_specialOf ht.typeIs PyProof.Rows.slot_tuple_iter.lookup (wpAny_pure ?_))
  simp only [Bool.false_eq_true, if_false]
  refine wpAny_bind (wpAny_holding (wpAny_pyIter_tuple ht ?_))
  refine wpAny_bind (wpAny_holding (wpAny_draw_tuple (Nat.ne_of_lt hlt) 1 0 _ _ ⟨_, Heap.get?_push_size _ rfl, rfl, rfl⟩ (ht.push _) (by omega) fun h1 hit1 sb => ?_))
  have e1 : List.take 1 (List.drop 0 items.toList) = [x] := by rw [hx]; rfl
  rw [e1]
  have ht1 : h1.IsTuple t items := (ht.push _).extBut sb.extBut (Nat.ne_of_lt hlt)
  have W := (Walks.tuple (prog := prog) (w := w) (A := A.in1) hh s.heap.objs.size t (Nat.ne_of_lt hlt) items).toS
  rw [hsz] at W
  have hs1 : h1.objs.size = s.heap.objs.size + 1 := by rw [sb.1]; exact Heap.size_push _ _
  rw [if_neg (by simp)]
  refine wpAny_bind (wpAny_holding (PySem.wpAny_collect_iter (T := "tuple_iterator") (.inr (.inr (.inr rfl))) (walks_shift W) (fun i s' st => st.1.typeIs) ⟨hit1, ht1⟩ (fun b hb => ?_) (by simp) (fun s' acc mv its => ?_) (by omega)))
  · show b < h1.objs.size
    rw [hs1]
    rcases List.mem_cons.mp hb with e | hb
    · rw [e]; exact Nat.lt_succ_self _
    · rcases List.mem_cons.mp hb with e | hb
      · rw [e]; exact Nat.lt_succ_of_lt hlt
      · cases hb
  · have hacc : acc.toList = xs := by
      refine List.ext_getElem? fun j => ?_
      obtain ⟨h1, h2⟩ := its
      by_cases hj : j < xs.length
      · have hj' : j < acc.size := by omega
        have h3 := h2 j acc[j] (by simp [hj'])
        have h4 : items.toList[j + 1]? = some acc[j] := by simpa using h3
        rw [hx, List.getElem?_cons_succ] at h4
        rw [h4]; simp [hj']
      · rw [List.getElem?_eq_none (l := acc.toList) (by rw [Array.length_toList]; omega), List.getElem?_eq_none (l := xs) (by omega)]
    rw [hacc]
    have kept : ∀ b o, s.heap.get? b = some o → s'.heap.get? b = some o := fun b o e => by
      have hb : b ≠ s.heap.objs.size := Nat.ne_of_lt (Heap.lt_size e)
      exact mv.heap b o (by simp [hb]) (sb.extBut b o hb (Heap.get?_push_of_some _ e))
    obtain ⟨hp, gn, dr, tk, os⟩ := s'
    have g1 : gn = s.gens := mv.gens
    have g2 : dr = s.drawn := mv.drawn
    have g3 : os = s.os := mv.os
    subst g1 g2 g3
    show wpAny _ A (if xs.length < 0 then _ else _) _ _ _
    rw [if_neg (by omega)]
    refine wpAny_bind (wpAny_newList ?_ (by rw [List.length_take]; omega))
    rw [Nat.sub_zero, List.take_length, List.drop_length]
    exact wpAny_pure (hQ hp tk kept)
/-- a, *b = a tuple -/
def gStar (K : PySem.W.Frag) (t : TGs) : TG := fun v σ H Q => ∃ a x xs, v = .ref a ∧ SqT K H a (x :: xs) ∧ ∀ l, H l = none → t [x, .ref l] σ (upd H l (.lst xs)) Q
theorem pg_star {X : Cx} {e b : Expr} {k : Nat} {p pos : Pos} {t : TGs} (hc : X.calm = true) (h : PGs X [e, .Starred b p] t) (hs : notStar e = true) : PG X (.Tuple [e, .Starred b p] k pos) (gStar X.K t) := by
  refine ⟨fun pins s σ H v u Q I r hw => ?_⟩
  obtain ⟨a, x, xs, rfl, hq, hw⟩ := hw
  cases r
  obtain ⟨its, rv, ht, hz⟩ := I.tuple hq
  cases rv with
  | cons r1 r2 =>
    rename_i u us
    rw [PyProof.Rows.assign_Tuple]
    refine wpAny_bind (wpAny_standAt ?_)
    have e1 : (assignEach [e, .Starred b p] X.env).length = 2 ∧ (assignEach [e, .Starred b p] X.env).findIdx? (·.1) = some 1 := by
      have e2 : assignEach [e, .Starred b p] X.env = [(false, assign e X.env), (true, assign b X.env)] := by
        cases e <;> first | rfl | cases hs
      rw [e2]; exact ⟨rfl, rfl⟩
    unfold unpack
    rw [e1.1, e1.2]
    refine wpAny_bind (wpAny_holding (unpack_star (x := u) (xs := us) (I.ok.hd hc) (show s.heap.IsTuple a (u :: us).toArray from ht) (by simp) (by rw [List.size_toArray]; simpa [← r2.length] using hz) fun h' tk hk => ?_))
    have I1 : L2.Inv X pins σ H { s with heap := h', toks := tk } := I.kept hk
    have hzs : xs.length ≤ sizeLine := by rw [List.length_cons] at hz; omega
    exact h.run pins _ σ _ [x, .ref h'.objs.size] _ Q (I1.lnew (t' := tk) r2 hzs) (.cons r1 (.cons rfl .nil)) (hw _ I1.fresh)
theorem pgs_starred {X : Cx} {y : Str} {py p : Pos} {t : TGs} (h : PGs X [.Name y py] t) : PGs X [.Starred (.Name y py) p] t := ⟨h.run⟩
end
/-- first, *rest = a tuple: the rest in a new list -/
def splitT : D → Option (D × List D)
  | .tup (x :: xs) => some (x, xs)
  | _ => none
def sStar (is : List Nat) (m : ME) : MS := fun ρ => (m ρ).bind fun o ρ1 => lift ((getO ρ1 o).bind splitT) fun p => lift (putSs is [.val p.1, .fresh (.lst p.2)] ρ1) fun ρ2 => .ok .nx ρ2
end RF
end
section
/-! RSetA: set(xs) of texts, of ints. -/
namespace RF
open PySem L2 PyProof.Rows
section
variable {P : Program} {w : World} {A : Around} {E : Value → Shared → Prop} {s : Shared}
/-- the loop behind set(..); SR i h: what the set at S is in h behind i things -/
theorem set_loop {I : Addr} {fp wr : List Addr} {G : Array GenState → Array GenState → Prop} {n : Nat} {Pv : Nat → Value → Prop} {St : Nat → Shared → Prop} {R : Result → Shared → Prop}
    (W : WalksS P w A.in1 I fp wr G n Pv St) (S : Addr) (hSf : S ∉ fp) (SR : Nat → Heap → Prop)
    (mv : ∀ i h h', SR i h → (∀ o, h.get? S = some o → h'.get? S = some o) → SR i h')
    (add : ∀ (A : Around) (E : Value → Shared → Prop) (i : Nat) (v : Value) (s : Shared) (Q : Bool → Shared → Prop), i < n → Pv i v → SR i s.heap → (∀ b h', Heap.SameBut S s.heap h' → SR (i + 1) h' → Q b { s with heap := h', toks := s.toks + 1 }) → wpAny (model P w) A (setAdd S v) Q E s) :
    ∀ (k i : Nat) (s : Shared), n - i = k → i ≤ n → St i s → SR i s.heap → (∀ s', Moved (S :: wr) G s s' → SR n s'.heap → R (.ok (.ret .none)) s') →
      codeAny (model P w) A (.builtin "set.update.loop" ⟨[.ref S, .ref I], []⟩) R s := by
  have hSw : S ∉ wr := fun h => hSf (W.sub _ h)
  have hsub : ∀ b ∈ wr, b ∈ S :: wr := fun b hb => List.mem_cons_of_mem _ hb
  intro k
  induction k with
  | zero =>
    intro i s hk' hi hst hS hR
    have hin : i = n := by omega
    subst hin
    refine codeAny_builtin F.entry_set_update_loop ?_
    rw [Around.under_plainId F.plain_set_update_loop _]
    show wpAny _ A.in1 (pyNext (.ref I) >>= _) _ _ s
    refine wpAny_bind (W.done s _ _ hst fun s' hm => ?_)
    show wpAny _ A.in1 (ret Value.none) _ _ s'
    exact wpAny_pure (hR s' (hm.mono hsub) (mv _ _ _ hS fun o e => hm.heap S o hSw e))
  | succ k ih =>
    intro i s hk' hi hst hS hR
    have hlt : i < n := by omega
    refine codeAny_builtin F.entry_set_update_loop ?_
    rw [Around.under_plainId F.plain_set_update_loop _]
    show wpAny _ A.in1 (pyNext (.ref I) >>= _) _ _ s
    refine wpAny_bind (W.item i s _ _ hlt hst fun v s' hP hst' hm => ?_)
    have hS' := mv _ _ s'.heap hS fun o e => hm.heap S o hSw e
    show wpAny _ A.in1 (holding [v] (setAdd S v) >>= _) _ _ s'
    refine wpAny_bind (wpAny_holding ?_)
    refine add _ _ i v s' _ hlt hP hS' fun b h' hsb hS2 => ?_
    refine wpAny_pure ⟨plainId_quiet F.plain_set_update_loop _, ih (i + 1) _ (by omega) hlt (W.frame _ s' _ _ hst' (Nat.le_succ _) fun b hb o e => ?_) hS2 fun s'' hm'' hS'' => ?_⟩
    · rw [hsb.2 b (fun h : b = S => hSf (by rw [← h]; exact hb))]; exact e
    · refine hR s'' (Moved.trans W.gtrans ((hm.mono hsub).then_heap (Nat.le_succ _) fun b o hb e => ?_) hm'') hS''
      rw [hsb.2 b (fun h : b = S => hb (by rw [h]; exact List.mem_cons_self))]; exact e

theorem call_set_list {l : Addr} {items : Array Value} {Q : Value → Shared → Prop} (hh : A.handled = none) (hl : s.heap.IsList l items) (SR : Nat → Heap → Prop)
    (mv : ∀ i h h', SR i h → (∀ o, h.get? s.heap.objs.size = some o → h'.get? s.heap.objs.size = some o) → SR i h')
    (new : ∀ h : Heap, h.get? s.heap.objs.size = some { cls := .type "set", dict := none, data := .set #[] 0 (.fresh 0 0 (!w.params.followText "set-order")) } → SR 0 h)
    (add : ∀ (A : Around) (E : Value → Shared → Prop) (i : Nat) (v : Value) (s' : Shared) (Q : Bool → Shared → Prop), i < items.size → items[i]? = some v → SR i s'.heap → (∀ b h', Heap.SameBut s.heap.objs.size s'.heap h' → SR (i + 1) h' → Q b { s' with heap := h', toks := s'.toks + 1 }) → wpAny (model P w) A (setAdd s.heap.objs.size v) Q E s')
    (h : ∀ (h' : Heap) (tk : Nat), SR items.size h' → (∀ b o, s.heap.get? b = some o → h'.get? b = some o) → Q (.ref s.heap.objs.size) { s with heap := h', toks := tk }) :
    wpAny (model P w) A (call (.type "set") [.ref l]) Q E s := by
  obtain ⟨c, tl, hmro⟩ := F.called_set.mro
  have hmade := F.called_set.made
  have hsub := F.called_set.sub
  refine wpAny_call (codeAny_of_tree ?_)
  show wpAny _ _ (callAny (.type "set") _) _ _ _
  refine wpAny_pure ⟨Code.quiet_builtin _ (by decide +kernel), codeAny_builtin F.entry_type_call ?_⟩
  rw [Around.under_plain (weight_type_call_type "set" [.ref l] []) rfl]
  have h1 := F.called_set.notType
  have h2 := F.called_set.canCreate
  have hct := F.typeCall_set_1 (.ref l)
  repeat (any_goals (first | assumption | wp_step))
  refine codeAny_mono (code_set_led1 (.ref l) (E := E) (Q₁ := fun obj s₁ => obj = .ref s.heap.objs.size ∧ s₁ = { s with heap := s.heap.push { cls := .type "set", dict := none, data := .set #[] 0 (.fresh 0 0 (!w.params.followText "set-order")) } }) ⟨rfl, rfl⟩) fun r s₁ hr => ?_
  cases r with
  | error e => exact hr
  | ok fl =>
    cases fl with
    | ret obj =>
      obtain ⟨rfl, rfl⟩ := hr
      have hS : (s.heap.push { cls := .type "set", dict := none, data := .set #[] 0 (.fresh 0 0 (!w.params.followText "set-order")) }).get? s.heap.objs.size = some { cls := .type "set", dict := none, data := .set #[] 0 (.fresh 0 0 (!w.params.followText "set-order")) } := Heap.get?_push_size _ rfl
      have hT : Shared.TypeIs { s with heap := s.heap.push { cls := .type "set", dict := none, data := .set #[] 0 (.fresh 0 0 (!w.params.followText "set-order")) } } (.ref s.heap.objs.size) "set" := ⟨_, hS, rfl⟩
      have hli := F.called_set.init.lookup
      have hbi := F.called_set.init.bind (.ref s.heap.objs.size)
      repeat (any_goals (first | assumption | wp_step))
      refine codeAny_mono (codeAny_call_builtin (R := wants (fun r s₂ => r = .none ∧ ∃ h' tk, s₂ = { s with heap := h', toks := tk } ∧ SR items.size h' ∧
          (∀ b o, s.heap.get? b = some o → h'.get? b = some o)) E) F.called_set.init.plain F.entry_set_init (check_set_init_1 hT ?_)) fun r₂ s₂ hr₂ => ?_
      · obtain ⟨ol, hol, hcl, nl, hdl⟩ := hl
        obtain ⟨ocls, odict, odata, oslots⟩ := ol
        simp only at hcl hdl
        subst hcl; subst hdl
        have hol' : (s.heap.push { cls := .type "set", dict := none, data := .set #[] 0 (.fresh 0 0 (!w.params.followText "set-order")) }).get? l = some { cls := .type "list", dict := odict, data := .seq items nl, slots := oslots } := Heap.get?_push_of_some _ hol
        have hsls := PySem.F.sub_list_set
        have hslf := PySem.F.sub_list_frozenset
        have hne : (Value.type "list" == Value.type "dict") = false := by decide
        have hl1 : (s.heap.push { cls := .type "set", dict := none, data := .set #[] 0 (.fresh 0 0 (!w.params.followText "set-order")) }).IsList l items := ⟨_, hol', rfl, nl, rfl⟩
        unfold Builtin.«set.__init__» noKeywords Builtin.Frozenset.updateFrom
        generalize hPI : pyIter = PI
        wp_walk
        subst hPI
        refine wpAny_pyIter_list hl1 ?_
        refine wpAny_bind (wpAny_runValue ?_)
        have hlS : l < s.heap.objs.size := Heap.lt_size hol
        have hh3 : A.in1.in1.in1.handled = none := by simp [hh]
        have hneI : l ≠ (s.heap.push { cls := .type "set", dict := none, data := .set #[] 0 (.fresh 0 0 (!w.params.followText "set-order")) }).objs.size := by
          rw [Heap.size_push]; exact Nat.ne_of_lt (Nat.lt_succ_of_lt hlS)
        have hSf : s.heap.objs.size ∉ [(s.heap.push { cls := .type "set", dict := none, data := .set #[] 0 (.fresh 0 0 (!w.params.followText "set-order")) }).objs.size, l] := by
          rw [Heap.size_push]; simp only [List.mem_cons, List.mem_singleton, List.not_mem_nil, or_false, not_or]
          exact ⟨Nat.ne_of_lt (Nat.lt_succ_self _), Nat.ne_of_gt hlS⟩
        refine set_loop ((Walks.list hh3 _ l hneI items).toS) s.heap.objs.size
          hSf SR mv add (items.size - 0) 0 _ (by omega) (Nat.zero_le _)
          ⟨⟨_, Heap.get?_push_size _ rfl, rfl, rfl⟩, (hl1.push _)⟩ ?hS0 ?hR
        case hS0 => exact new _ (Heap.get?_push_of_some _ hS)
        case hR =>
          intro s' hm hS'
          obtain ⟨h', g2, d', tk', os'⟩ := s'
          have eg : g2 = s.gens := hm.gens
          have ed : d' = s.drawn := hm.drawn
          have eo : os' = s.os := hm.os
          subst eg; subst ed; subst eo
          show wpAny _ _ _ _ _ _
          refine wpAny_pure ?_
          show wpAny _ _ (ret Value.none) _ _ _
          refine wpAny_pure ⟨rfl, h', tk', rfl, hS', fun b o e => ?_⟩
          have hb0 : b < s.heap.objs.size := Heap.lt_size e
          have hb1 : b ≠ s.heap.objs.size := Nat.ne_of_lt hb0
          have hb2 : b ≠ (s.heap.push { cls := .type "set", dict := none, data := .set #[] 0 (.fresh 0 0 (!w.params.followText "set-order")) }).objs.size := by
            rw [Heap.size_push]; exact Nat.ne_of_lt (Nat.lt_succ_of_lt hb0)
          exact hm.heap b o (by simp only [List.mem_cons, List.mem_singleton, List.not_mem_nil, or_false, not_or]; exact ⟨hb1, hb2⟩) (Heap.get?_push_of_some _ (Heap.get?_push_of_some _ e))
      · cases r₂ with
        | error e => exact hr₂
        | ok fl₂ =>
          cases fl₂ with
          | ret r =>
            obtain ⟨rfl, h', tk, rfl, hS', hk'⟩ := hr₂
            repeat (any_goals (first | assumption | wp_step))
            exact h _ _ hS' hk'
          | _ => exact hr₂.elim
    | _ => exact hr.elim

theorem call_set_tuple {l : Addr} {items : Array Value} {Q : Value → Shared → Prop} (hh : A.handled = none) (hl : s.heap.IsTuple l items) (SR : Nat → Heap → Prop)
    (mv : ∀ i h h', SR i h → (∀ o, h.get? s.heap.objs.size = some o → h'.get? s.heap.objs.size = some o) → SR i h')
    (new : ∀ h : Heap, h.get? s.heap.objs.size = some { cls := .type "set", dict := none, data := .set #[] 0 (.fresh 0 0 (!w.params.followText "set-order")) } → SR 0 h)
    (add : ∀ (A : Around) (E : Value → Shared → Prop) (i : Nat) (v : Value) (s' : Shared) (Q : Bool → Shared → Prop), i < items.size → items[i]? = some v → SR i s'.heap → (∀ b h', Heap.SameBut s.heap.objs.size s'.heap h' → SR (i + 1) h' → Q b { s' with heap := h', toks := s'.toks + 1 }) → wpAny (model P w) A (setAdd s.heap.objs.size v) Q E s')
    (h : ∀ (h' : Heap) (tk : Nat), SR items.size h' → (∀ b o, s.heap.get? b = some o → h'.get? b = some o) → Q (.ref s.heap.objs.size) { s with heap := h', toks := tk }) :
    wpAny (model P w) A (call (.type "set") [.ref l]) Q E s := by
  obtain ⟨c, tl, hmro⟩ := F.called_set.mro
  have hmade := F.called_set.made
  have hsub := F.called_set.sub
  refine wpAny_call (codeAny_of_tree ?_)
  show wpAny _ _ (callAny (.type "set") _) _ _ _
  refine wpAny_pure ⟨Code.quiet_builtin _ (by decide +kernel), codeAny_builtin F.entry_type_call ?_⟩
  rw [Around.under_plain (weight_type_call_type "set" [.ref l] []) rfl]
  have h1 := F.called_set.notType
  have h2 := F.called_set.canCreate
  have hct := F.typeCall_set_1 (.ref l)
  repeat (any_goals (first | assumption | wp_step))
  refine codeAny_mono (code_set_led1 (.ref l) (E := E) (Q₁ := fun obj s₁ => obj = .ref s.heap.objs.size ∧ s₁ = { s with heap := s.heap.push { cls := .type "set", dict := none, data := .set #[] 0 (.fresh 0 0 (!w.params.followText "set-order")) } }) ⟨rfl, rfl⟩) fun r s₁ hr => ?_
  cases r with
  | error e => exact hr
  | ok fl =>
    cases fl with
    | ret obj =>
      obtain ⟨rfl, rfl⟩ := hr
      have hS : (s.heap.push { cls := .type "set", dict := none, data := .set #[] 0 (.fresh 0 0 (!w.params.followText "set-order")) }).get? s.heap.objs.size = some { cls := .type "set", dict := none, data := .set #[] 0 (.fresh 0 0 (!w.params.followText "set-order")) } := Heap.get?_push_size _ rfl
      have hT : Shared.TypeIs { s with heap := s.heap.push { cls := .type "set", dict := none, data := .set #[] 0 (.fresh 0 0 (!w.params.followText "set-order")) } } (.ref s.heap.objs.size) "set" := ⟨_, hS, rfl⟩
      have hli := F.called_set.init.lookup
      have hbi := F.called_set.init.bind (.ref s.heap.objs.size)
      repeat (any_goals (first | assumption | wp_step))
      refine codeAny_mono (codeAny_call_builtin (R := wants (fun r s₂ => r = .none ∧ ∃ h' tk, s₂ = { s with heap := h', toks := tk } ∧ SR items.size h' ∧
          (∀ b o, s.heap.get? b = some o → h'.get? b = some o)) E) F.called_set.init.plain F.entry_set_init (check_set_init_1 hT ?_)) fun r₂ s₂ hr₂ => ?_
      · obtain ⟨ol, hol, hcl, nl, hdl⟩ := hl
        obtain ⟨ocls, odict, odata, oslots⟩ := ol
        simp only at hcl hdl
        subst hcl; subst hdl
        have hol' : (s.heap.push { cls := .type "set", dict := none, data := .set #[] 0 (.fresh 0 0 (!w.params.followText "set-order")) }).get? l = some { cls := .type "tuple", dict := odict, data := .seq items nl, slots := oslots } := Heap.get?_push_of_some _ hol
        have hsls := PySem.F.sub_tuple_set
        have hslf := PySem.F.sub_tuple_frozenset
        have hne : (Value.type "tuple" == Value.type "dict") = false := by decide
        have hl1 : (s.heap.push { cls := .type "set", dict := none, data := .set #[] 0 (.fresh 0 0 (!w.params.followText "set-order")) }).IsTuple l items := ⟨_, hol', rfl, nl, rfl⟩
        unfold Builtin.«set.__init__» noKeywords Builtin.Frozenset.updateFrom
        generalize hPI : pyIter = PI
        wp_walk
        subst hPI
        refine wpAny_pyIter_tuple hl1 ?_
        refine wpAny_bind (wpAny_runValue ?_)
        have hlS : l < s.heap.objs.size := Heap.lt_size hol
        have hh3 : A.in1.in1.in1.handled = none := by simp [hh]
        have hneI : l ≠ (s.heap.push { cls := .type "set", dict := none, data := .set #[] 0 (.fresh 0 0 (!w.params.followText "set-order")) }).objs.size := by
          rw [Heap.size_push]; exact Nat.ne_of_lt (Nat.lt_succ_of_lt hlS)
        have hSf : s.heap.objs.size ∉ [(s.heap.push { cls := .type "set", dict := none, data := .set #[] 0 (.fresh 0 0 (!w.params.followText "set-order")) }).objs.size, l] := by
          rw [Heap.size_push]; simp only [List.mem_cons, List.mem_singleton, List.not_mem_nil, or_false, not_or]
          exact ⟨Nat.ne_of_lt (Nat.lt_succ_self _), Nat.ne_of_gt hlS⟩
        refine set_loop ((Walks.tuple hh3 _ l hneI items).toS) s.heap.objs.size
          hSf SR mv add (items.size - 0) 0 _ (by omega) (Nat.zero_le _)
          ⟨⟨_, Heap.get?_push_size _ rfl, rfl, rfl⟩, (hl1.push _)⟩ ?hS0 ?hR
        case hS0 => exact new _ (Heap.get?_push_of_some _ hS)
        case hR =>
          intro s' hm hS'
          obtain ⟨h', g2, d', tk', os'⟩ := s'
          have eg : g2 = s.gens := hm.gens
          have ed : d' = s.drawn := hm.drawn
          have eo : os' = s.os := hm.os
          subst eg; subst ed; subst eo
          show wpAny _ _ _ _ _ _
          refine wpAny_pure ?_
          show wpAny _ _ (ret Value.none) _ _ _
          refine wpAny_pure ⟨rfl, h', tk', rfl, hS', fun b o e => ?_⟩
          have hb0 : b < s.heap.objs.size := Heap.lt_size e
          have hb1 : b ≠ s.heap.objs.size := Nat.ne_of_lt hb0
          have hb2 : b ≠ (s.heap.push { cls := .type "set", dict := none, data := .set #[] 0 (.fresh 0 0 (!w.params.followText "set-order")) }).objs.size := by
            rw [Heap.size_push]; exact Nat.ne_of_lt (Nat.lt_succ_of_lt hb0)
          exact hm.heap b o (by simp only [List.mem_cons, List.mem_singleton, List.not_mem_nil, or_false, not_or]; exact ⟨hb1, hb2⟩) (Heap.get?_push_of_some _ (Heap.get?_push_of_some _ e))
      · cases r₂ with
        | error e => exact hr₂
        | ok fl₂ =>
          cases fl₂ with
          | ret r =>
            obtain ⟨rfl, h', tk, rfl, hS', hk'⟩ := hr₂
            repeat (any_goals (first | assumption | wp_step))
            exact h _ _ hS' hk'
          | _ => exact hr₂.elim
    | _ => exact hr.elim

end
end RF
end
section
/-! RSet: set(xs) of texts, of ints. -/
namespace RF
open PySem L2 PyProof.Rows
/-! ### set(xs) by values -/
def dedS (l : List Str) : List Str := l.foldl (fun a k => ins1 k a) []
def insI (k : Int) (l : List Int) : List Int := if k ∈ l then l else k :: l
def dedI (l : List Int) : List Int := l.foldl (fun a k => insI k a) []
theorem dedS_snoc {l : List Str} {k : Str} : dedS (l ++ [k]) = ins1 k (dedS l) := by simp [dedS, List.foldl_append]
theorem dedI_snoc {l : List Int} {k : Int} : dedI (l ++ [k]) = insI k (dedI l) := by simp [dedI, List.foldl_append]
theorem foldS_nd : ∀ (l a : List Str), a.Nodup → (l.foldl (fun a k => ins1 k a) a).Nodup
  | [], _, h => h
  | k :: l, a, h => foldS_nd l _ (ins1_nodup h)
theorem dedS_nd (l : List Str) : (dedS l).Nodup := foldS_nd l [] List.nodup_nil
theorem foldS_mem {x : Str} : ∀ (l a : List Str), x ∈ l.foldl (fun a k => ins1 k a) a ↔ x ∈ l ∨ x ∈ a
  | [], a => by simp
  | k :: l, a => by
    rw [List.foldl_cons, foldS_mem l, ins1_mem]
    simp only [List.mem_cons]
    constructor
    · rintro (h | h | h)
      · exact .inl (.inr h)
      · exact .inl (.inl h)
      · exact .inr h
    · rintro ((h | h) | h)
      · exact .inr (.inl h)
      · exact .inl h
      · exact .inr (.inr h)
theorem dedS_mem {x : Str} {l : List Str} : x ∈ dedS l ↔ x ∈ l := by unfold dedS; rw [foldS_mem]; simp
theorem foldS_len : ∀ (l a : List Str), (l.foldl (fun a k => ins1 k a) a).length ≤ l.length + a.length
  | [], a => by simp
  | k :: l, a => by
    have h1 := foldS_len l (ins1 k a)
    have h2 := ins1_len k a
    rw [List.foldl_cons, List.length_cons]; omega
theorem dedS_len (l : List Str) : (dedS l).length ≤ l.length := by have := foldS_len l []; simpa [dedS] using this
theorem insI_mem {k x : Int} {l : List Int} : x ∈ insI k l ↔ x = k ∨ x ∈ l := by
  unfold insI; split
  · rename_i h; exact ⟨.inr, fun z => z.elim (fun e => e ▸ h) id⟩
  · exact List.mem_cons
theorem insI_nodup {k : Int} {l : List Int} (h : l.Nodup) : (insI k l).Nodup := by
  unfold insI; split
  · exact h
  · rename_i n; exact List.nodup_cons.mpr ⟨n, h⟩
theorem insI_len (k : Int) (l : List Int) : (insI k l).length ≤ l.length + 1 := by
  unfold insI; split <;> simp
theorem foldI_nd : ∀ (l a : List Int), a.Nodup → (l.foldl (fun a k => insI k a) a).Nodup
  | [], _, h => h
  | k :: l, a, h => foldI_nd l _ (insI_nodup h)
theorem dedI_nd (l : List Int) : (dedI l).Nodup := foldI_nd l [] List.nodup_nil
theorem foldI_mem {x : Int} : ∀ (l a : List Int), x ∈ l.foldl (fun a k => insI k a) a ↔ x ∈ l ∨ x ∈ a
  | [], a => by simp
  | k :: l, a => by
    rw [List.foldl_cons, foldI_mem l, insI_mem]
    simp only [List.mem_cons]
    constructor
    · rintro (h | h | h)
      · exact .inl (.inr h)
      · exact .inl (.inl h)
      · exact .inr h
    · rintro ((h | h) | h)
      · exact .inr (.inl h)
      · exact .inl h
      · exact .inr (.inr h)
theorem dedI_mem {x : Int} {l : List Int} : x ∈ dedI l ↔ x ∈ l := by unfold dedI; rw [foldI_mem]; simp
theorem foldI_len : ∀ (l a : List Int), (l.foldl (fun a k => insI k a) a).length ≤ l.length + a.length
  | [], a => by simp
  | k :: l, a => by
    have h1 := foldI_len l (insI k a)
    have h2 := insI_len k a
    rw [List.foldl_cons, List.length_cons]; omega
theorem dedI_len (l : List Int) : (dedI l).length ≤ l.length := by have := foldI_len l []; simpa [dedI] using this
section
variable {X : Cx} {g : Bg}
def rSetT (K : PySem.W.Frag) (mg : Mg) : List V → Hp → VK → Prop := fun xs H Q => ∃ (a : Addr) (ys : List Str), xs = [.ref a] ∧ (SqL K H a (ys.map V.str) ∨ SqT K H a (ys.map V.str)) ∧ ys.length < 900 ∧ ∀ p, H p = none → Q (.ref p) (upd H p (SetSO mg p (dedS ys)))
def rSetI (K : PySem.W.Frag) (mg : Mg) : List V → Hp → VK → Prop := fun xs H Q => ∃ (a : Addr) (ys : List Int), xs = [.ref a] ∧ (SqL K H a (ys.map V.int) ∨ SqT K H a (ys.map V.int)) ∧ ys.length < 900 ∧ ∀ p, H p = none → Q (.ref p) (upd H p (SetIO mg p (dedI ys)))
theorem TxR.mv {m : Mg} {h h' : Heap} {a : Addr} {l : List Str} (R : TxR m h a l) (k : ∀ o, h.get? a = some o → h'.get? a = some o) : TxR m h' a l := by
  obtain ⟨T, ho, r⟩ := R; exact ⟨T, k _ ho, r⟩
theorem txr_at {m : Mg} {h : Heap} {a : Addr} (e : h.get? a = some { cls := .type "set", dict := none, data := .set #[] 0 (.fresh 0 0 (!m.w.params.followText "set-order")) }) : TxR m h a [] :=
  ⟨(#[], 0, .fresh 0 0 (!m.w.params.followText "set-order")), e, Froz.TxOk.nil (by rfl), List.Pairwise.nil, by
    show _ ∨ (!m.w.params.followText "set-order") = true
    cases m.w.params.followText "set-order"
    · exact .inr rfl
    · exact .inl rfl⟩
theorem stk_at {α : Type} {ys : List α} {i : Nat} {y : α} (h : ys[i]? = some y) : ys.take (i + 1) = ys.take i ++ [y] := by
  rw [List.take_add_one, h]; rfl
theorem call_setT (hG : md X = g.mg) (hc : X.calm = true) : CallR X (.type "set") (rSetT X.K g.mg) := by
  intro pins s σ H xs us Q I r h
  obtain ⟨a, ys, rfl, hq, hl, q⟩ := h
  obtain ⟨u, rfl, ru⟩ := vals1 r
  cases ru
  rw [← hG] at q
  have add : ∀ its : List Value, Vals (ys.map V.str) its → ∀ (A : Around) (E : Value → Shared → Prop) (i : Nat) (v : Value) (s' : Shared) (Q : Bool → Shared → Prop), i < its.toArray.size → its.toArray[i]? = some v → TxR (md X) s'.heap s.heap.objs.size (dedS (ys.take i)) → (∀ b h', Heap.SameBut s.heap.objs.size s'.heap h' → TxR (md X) h' s.heap.objs.size (dedS (ys.take (i + 1))) → Q b { s' with heap := h', toks := s'.toks + 1 }) → wpAny (model X.prog X.w) A (setAdd s.heap.objs.size v) Q E s' := by
    intro its rv A E i v s' Q hi hv R k
    have hv' : its[i]? = some v := by simpa using hv
    obtain ⟨y, hy, rel⟩ : ∃ y, ys[i]? = some y ∧ RelV (.str y) v := by
      have hlt : i < ys.length := by
        have := rv.length
        rw [List.length_map] at this
        have := (List.getElem?_eq_some_iff.mp hv').1
        omega
      obtain ⟨w, hw, rel⟩ := rv.get (i := i) (x := .str ys[i]) (by simp [hlt])
      rw [hv'] at hw; cases hw
      exact ⟨ys[i], List.getElem?_eq_getElem hlt, rel⟩
    obtain ⟨t, rfl⟩ := rel
    rw [stk_at hy, dedS_snoc] at k
    unfold setAdd
    refine wpAny_holding (wpAny_bind ((strKind X.prog X.w).pyHash (Froz.is_str y t) ?_))
    refine TxR.hashed (m := md X) (s := { s' with toks := s'.toks + 1 }) R ?_ fun b h' sb r => k b h' sb r
    have := dedS_len (ys.take i)
    rw [List.length_take] at this
    unfold scanBound; omega
  have fin : ∀ its : List Value, Vals (ys.map V.str) its → ∀ (h' : Heap) (tk : Nat), TxR (md X) h' s.heap.objs.size (dedS (ys.take its.toArray.size)) → (∀ b o, s.heap.get? b = some o → h'.get? b = some o) → EP X pins σ Q (.ref s.heap.objs.size) { s with heap := h', toks := tk } := by
    intro its rv h' tk R k
    have hsz : its.toArray.size = ys.length := by rw [List.size_toArray, ← rv.length, List.length_map]
    rw [hsz, List.take_length] at R
    have he : ∃ o, h'.get? s.heap.objs.size = some o := by obtain ⟨T, e, _⟩ := R; exact ⟨_, e⟩
    exact ⟨.ref s.heap.objs.size, _, I.laid (o := SetSO (md X) s.heap.objs.size (dedS ys)) (t' := tk) k (Nat.le_refl _) ⟨R, he, set_stable⟩, rfl, q _ (I.hok.fresh (Nat.le_refl _))⟩
  rcases hq with hq | hq
  · obtain ⟨its, rv, pl, hz⟩ := I.list hq
    exact call_set_list (I.ok.hd hc) pl.isList (fun i h => TxR (md X) h s.heap.objs.size (dedS (ys.take i))) (fun i h h' R k => R.mv k) (fun h e => txr_at e) (add its rv) (fin its rv)
  · obtain ⟨its, rv, pl, hz⟩ := I.tuple hq
    exact call_set_tuple (I.ok.hd hc) pl (fun i h => TxR (md X) h s.heap.objs.size (dedS (ys.take i))) (fun i h h' R k => R.mv k) (fun h e => txr_at e) (add its rv) (fin its rv)
theorem setI_stable {m : Mg} {a : Addr} {l : List Int} : ∀ h1 h2 : Heap, SetR m.w h1 a (fun j => decide (j ∈ l)) l.length → (∀ o, h1.get? a = some o → h2.get? a = some o) → SetR m.w h2 a (fun j => decide (j ∈ l)) l.length := fun _ _ p k => SetR.at p k
theorem call_setI (hG : md X = g.mg) (hc : X.calm = true) : CallR X (.type "set") (rSetI X.K g.mg) := by
  intro pins s σ H xs us Q I r h
  obtain ⟨a, ys, rfl, hq, hl, q⟩ := h
  obtain ⟨u, rfl, ru⟩ := vals1 r
  cases ru
  rw [← hG] at q
  have add : ∀ its : List Value, Vals (ys.map V.int) its → ∀ (A : Around) (E : Value → Shared → Prop) (i : Nat) (v : Value) (s' : Shared) (Q : Bool → Shared → Prop), i < its.toArray.size → its.toArray[i]? = some v → SetR X.w s'.heap s.heap.objs.size (fun j => decide (j ∈ dedI (ys.take i))) (dedI (ys.take i)).length → (∀ b h', Heap.SameBut s.heap.objs.size s'.heap h' → SetR X.w h' s.heap.objs.size (fun j => decide (j ∈ dedI (ys.take (i + 1)))) (dedI (ys.take (i + 1))).length → Q b { s' with heap := h', toks := s'.toks + 1 }) → wpAny (model X.prog X.w) A (setAdd s.heap.objs.size v) Q E s' := by
    intro its rv A E i v s' Q hi hv R k
    have hv' : its[i]? = some v := by simpa using hv
    obtain ⟨y, hy, rel⟩ : ∃ y, ys[i]? = some y ∧ RelV (.int y) v := by
      have hlt : i < ys.length := by
        have := rv.length
        rw [List.length_map] at this
        have := (List.getElem?_eq_some_iff.mp hv').1
        omega
      obtain ⟨w, hw, rel⟩ := rv.get (i := i) (x := .int ys[i]) (by simp [hlt])
      rw [hv'] at hw; cases hw
      exact ⟨ys[i], List.getElem?_eq_getElem hlt, rel⟩
    obtain ⟨t, rfl⟩ := rel
    rw [stk_at hy, dedI_snoc] at k
    unfold setAdd
    refine wpAny_holding (wpAny_bind ((intKind X.prog X.w).pyHash (k := y) (intKind_is _ _ _ _) ?_))
    refine setR_add_hashed (s := { s' with toks := s'.toks + 1 }) R ?_ fun h' sb r => k _ h' sb ?_
    · have := dedI_len (ys.take i)
      rw [List.length_take] at this
      unfold scanBound; omega
    · have e1 : (insI y (dedI (ys.take i))).length = if decide (y ∈ dedI (ys.take i)) = true then (dedI (ys.take i)).length else (dedI (ys.take i)).length + 1 := by
        unfold insI
        by_cases hm : y ∈ dedI (ys.take i)
        · simp [hm]
        · simp [hm]
      rw [e1]
      refine r.congr fun j => ?_
      rw [Bool.eq_iff_iff]
      simp only [decide_eq_true_eq, Bool.or_eq_true, insI_mem]
      exact ⟨fun h => h.elim .inr .inl, fun h => h.elim .inr .inl⟩
  have fin : ∀ its : List Value, Vals (ys.map V.int) its → ∀ (h' : Heap) (tk : Nat), SetR X.w h' s.heap.objs.size (fun j => decide (j ∈ dedI (ys.take its.toArray.size))) (dedI (ys.take its.toArray.size)).length → (∀ b o, s.heap.get? b = some o → h'.get? b = some o) → EP X pins σ Q (.ref s.heap.objs.size) { s with heap := h', toks := tk } := by
    intro its rv h' tk R k
    have hsz : its.toArray.size = ys.length := by rw [List.size_toArray, ← rv.length, List.length_map]
    rw [hsz, List.take_length] at R
    have he : ∃ o, h'.get? s.heap.objs.size = some o := by obtain ⟨o, _, _, _, e, _⟩ := R; exact ⟨_, e⟩
    exact ⟨.ref s.heap.objs.size, _, I.laid (o := SetIO (md X) s.heap.objs.size (dedI ys)) (t' := tk) k (Nat.le_refl _) ⟨R, he, setI_stable (m := md X)⟩, rfl, q _ (I.hok.fresh (Nat.le_refl _))⟩
  rcases hq with hq | hq
  · obtain ⟨its, rv, pl, hz⟩ := I.list hq
    exact call_set_list (I.ok.hd hc) pl.isList (fun i h => SetR X.w h s.heap.objs.size (fun j => decide (j ∈ dedI (ys.take i))) (dedI (ys.take i)).length) (fun i h h' R k => R.at k) (fun h e => setR_new_at (ns := []) e) (add its rv) (fin its rv)
  · obtain ⟨its, rv, pl, hz⟩ := I.tuple hq
    exact call_set_tuple (I.ok.hd hc) pl (fun i h => SetR X.w h s.heap.objs.size (fun j => decide (j ∈ dedI (ys.take i))) (dedI (ys.take i)).length) (fun i h h' R k => R.at k) (fun h e => setR_new_at (ns := []) e) (add its rv) (fin its rv)
def setOfD (xs : List D) : Option RV := if xs.length < 900 then match strsD xs with
    | some l => some (.fresh (.set ((dedS l).map .str)))
    | none => match intsD xs with
      | some l => some (.fresh (.iset (dedI l)))
      | none => none
  else none
def setD : List D → Option RV
  | [.lst xs] => setOfD xs
  | [.tup xs] => setOfD xs
  | _ => none
theorem setOfD_ok {xs : List D} {rv : RV} {T : List (Addr × D)} {ρ : Env} {σ : L2.St} {H F : Hp} {a : Addr} {ws : List V} {Q : VK} (R : Rl g T ρ σ H F) (e : setOfD xs = some rv) (hs : SqL X.K H a ws ∨ SqT X.K H a ws) (r : Reps g.K g.mg F xs ws)
    (k : ∀ v H' F', Sub F F' → Res g T rv.ov v ρ σ H' F' → Q v H') : rSetT X.K g.mg [.ref a] H Q ∨ rSetI X.K g.mg [.ref a] H Q := by
  unfold setOfD at e
  split at e
  · rename_i hl
    cases e1 : strsD xs with
    | some l =>
      rw [e1] at e; cases e
      obtain ⟨rfl, _⟩ := strs_reps e1 r
      have hft := strs_fit e1 r
      have hlen := r.len
      rw [List.length_map] at hlen
      refine .inl ⟨a, l, rfl, hs, by omega, fun p hp => k _ _ F (Sub.refl F) ⟨p, rfl, R.laidT hp ?_⟩⟩
      simp only [At]
      exact ⟨dedS l, upd_same, dedS_nd l, fun x hx => hft x (dedS_mem.mp hx), rfl⟩
    | none =>
      rw [e1] at e
      cases e2 : intsD xs with
      | none => rw [e2] at e; cases e
      | some l =>
        rw [e2] at e; cases e
        have := ints_reps e2 r
        subst this
        have hlen := r.len
        rw [List.length_map] at hlen
        refine .inr ⟨a, l, rfl, hs, by omega, fun p hp => k _ _ F (Sub.refl F) ⟨p, rfl, R.laidT hp ?_⟩⟩
        simp only [At]
        exact ⟨upd_same, dedI_nd l⟩
  · cases e
theorem cb_set (hK : X.K = g.K) (hG : md X = g.mg) (hc : X.calm = true) : Cb X g (.type "set") setD := ⟨_, (call_setT hG hc).or (call_setI hG hc), fun T ρ σ H F ds vs rv Q R t e k => by
  unfold setD at e
  split at e
  · obtain ⟨x, rfl, t1⟩ := t.one
    simp only [Top] at t1; obtain ⟨a, us, rfl, q, z, r⟩ := t1
    exact setOfD_ok R e (.inl q.l) r k
  · obtain ⟨x, rfl, t1⟩ := t.one
    simp only [Top, Rep] at t1; obtain ⟨a, us, rfl, q, z, r⟩ := t1
    exact setOfD_ok R e (.inr (by rw [hK]; exact R.fz.sub.sqT q.t)) r k
  · cases e⟩
end
end RF
end
section
/-! RDd: dict(pairs). -/
namespace RF
open PySem L2
def pairsD : List D → Option (List (Key × D))
  | [] => some []
  | .tup [kd, v] :: ds => match keyD kd with
    | some k => (pairsD ds).map ((k, v) :: ·)
    | none => none
  | _ => none
def mergeD (ps : List (Key × D)) (acc : List Key × List D) : List Key × List D := ps.foldl (fun acc p => putP p.1 p.2 acc.1 acc.2) acc
def dictD : List D → Option RV
  | [.lst xs] => (pairsD xs).map fun ps => .fresh (.dic ((mergeD ps ([], [])).1.map keyOf) (mergeD ps ([], [])).2)
  | _ => none
section
variable {K : PySem.W.Frag} {mg : Mg} {H F : Hp}
theorem keysD_keyOf : ∀ l : List Key, keysD (l.map keyOf) = some l
  | [] => rfl
  | k :: l => by
    simp only [List.map_cons, keysD]
    cases k <;> simp [keyOf, keyD, keysD_keyOf l]
theorem pairs_rep : ∀ {xs : List D} {ps : List (Key × D)} {us : List V}, pairsD xs = some ps → Reps K mg F xs us →
    ∃ (as : List Addr) (kvs : List (Key × V)), us = as.map V.ref ∧ Paired (fun p kv => SqT K F p [kV kv.1, kv.2]) as kvs ∧ Paired (fun (p : Key × D) (kv : Key × V) => p.1 = kv.1 ∧ Rep K mg F (keyOf p.1) (kV p.1) ∧ Rep K mg F p.2 kv.2) ps kvs
  | [], ps, us, e, r => by
    simp only [pairsD, Option.some.injEq] at e
    subst e
    simp only [Reps] at r
    exact ⟨[], [], r, .nil, .nil⟩
  | d :: ds, ps, us, e, r => by
    unfold pairsD at e
    split at e
    · rename_i h; cases h
    · rename_i kd v ds' h
      cases h
      cases ek : keyD kd with
      | none => rw [ek] at e; cases e
      | some k =>
        rw [ek] at e
        simp only at e
        cases ep : pairsD ds with
        | none => rw [ep] at e; cases e
        | some ps' =>
          rw [ep] at e; cases e
          simp only [Reps] at r
          obtain ⟨x, us', rfl, r1, r2⟩ := r
          obtain ⟨as, kvs, rfl, h1, h2⟩ := pairs_rep ep r2
          simp only [Rep] at r1
          obtain ⟨a, vs, rfl, q, _, rr⟩ := r1
          simp only [Reps] at rr
          obtain ⟨y, r', rfl, g1, z, r'', rfl, g2, rfl⟩ := rr
          obtain ⟨rfl, ekd⟩ := key_rep ek g1
          subst ekd
          exact ⟨a :: as, (k, z) :: kvs, rfl, .cons q.t h1, .cons ⟨rfl, g1, g2⟩ h2⟩
    · cases e
theorem merge_at {a : Addr} : ∀ {ps : List (Key × D)} {kvs : List (Key × V)}, Paired (fun (p : Key × D) (kv : Key × V) => p.1 = kv.1 ∧ Rep K mg F (keyOf p.1) (kV p.1) ∧ Rep K mg F p.2 kv.2) ps kvs →
    ∀ {kvs0 : List (Key × V)} {l : List Key} {ds : List D}, At K mg (upd H a (.dK kvs0)) F (.dic (l.map keyOf) ds) a → At K mg (upd H a (.dK (mergeK kvs0 kvs))) F (.dic ((mergeD ps (l, ds)).1.map keyOf) (mergeD ps (l, ds)).2) a
  | [], [], _, kvs0, l, ds, h => h
  | p :: ps, kv :: kvs, .cons r t, kvs0, l, ds, h => by
    obtain ⟨e1, r1, r2⟩ := r
    obtain ⟨kvs', eH, _, at'⟩ := At.put r1 rfl r2 h (keysD_keyOf l)
    rw [upd_same] at eH
    cases eH
    have h2 := merge_at t (at' H)
    rw [e1] at h2
    have e2 : mergeK kvs0 (kv :: kvs) = mergeK (putK kvs0 kv.1 kv.2) kvs := rfl
    have e3 : mergeD (p :: ps) (l, ds) = mergeD ps (putP kv.1 p.2 l ds) := by rw [← e1]; rfl
    rw [e2, e3]
    exact h2
end
section
variable {X : Cx} {g : Bg}
theorem cb_dict (hK : X.K = g.K) (hc : X.calm = true) : Cb X g (.type "dict") dictD := ⟨_, call_dictP hc, fun T ρ σ H F ds vs rv Q R t e k => by
  unfold dictD at e
  split at e
  · rename_i xs
    cases ep : pairsD xs with
    | none => rw [ep] at e; cases e
    | some ps =>
      rw [ep] at e; cases e
      obtain ⟨x, rfl, t1⟩ := t.one
      simp only [Top] at t1
      obtain ⟨a, us, rfl, q, z, r⟩ := t1
      obtain ⟨as, kvs, rfl, h1, h2⟩ := pairs_rep ep r
      refine ⟨a, as, kvs, rfl, q.l, L2.Paired.mapP h1 fun p kv h => by rw [hK]; exact R.fz.sub.sqT h, fun p hp => k _ _ F (Sub.refl F) ⟨p, rfl, R.laidT hp ?_⟩⟩
      exact merge_at (l := []) (ds := []) h2 At.dic0
  · cases e⟩
end
end RF
end
section
/-! RT: from a text to what it computes. -/
namespace RF
open PySem L2

/-- how a call of n values and keywords ks comes to parameters -/
structure Sh where
  n : Nat
  ks : List Str
  pms : List Pm
inductive Gb where
  | fn (fs : FunSem) (k : Nat) (np : Option Nat) (shs : List Sh)
  | cl (fs : FunSem) (k : Nat) (shs : List Sh)
  | int (i : Int)
  | str (s : Str)
structure Tbl where
  gs : List (Str × Gb)
  fr : List Str
  cs : List Str
  fs : List Str
  fl : List (Str × Str)
  mt : List ((Str × Nat × List Str) × Nat × List (Str × FunSem × List Pm))
structure Tc where
  t : Tbl
  lv : Nat
  N : List Str
  sc : Scope
  fnc : Str → Bool

def eNo : ME := fun _ => .no
def tNo : MT := fun _ => .no
def iNo : MI := fun _ => .no

def ixOf : List Str → Str → Option Nat
  | [], _ => none
  | y :: N, x => if x == y then some 0 else (ixOf N x).map (· + 1)
def nmOk (x : Str) : Bool := !(x == "__debug__") && !(x == "__classdict__") && !(x == "__name__")
def isLocK : Option NameKind → Bool
  | some .local => true | some .cell => true | some .free => true | _ => false
def isGlob : Option NameKind → Bool
  | some .globalImplicit => true | _ => false
/-- the slot of a name that is seen here -/
def slotOf (c : Tc) (x : Str) : Option Nat := if isLocK (c.sc.names.lookup x) && nmOk x then ixOf c.N x else none
/-- .. that may be stored -/
def storeOf (c : Tc) (x : Str) : Option Nat := match c.sc.names.lookup x with
  | some .local => ixOf c.N x
  | some .cell => if c.fnc x then ixOf c.N x else none
  | _ => none
def freeB (c : Tc) (x : Str) : Bool := isGlob (c.sc.names.lookup x) && c.t.fr.contains x && nmOk x
def tyNm (x : Str) : Option String := if x == "str" then some "str" else if x == "int" then some "int" else if x == "bool" then some "bool" else if x == "tuple" then some "tuple" else if x == "list" then some "list" else if x == "dict" then some "dict" else none
def strFit (s : Str) : Bool := decide (s.length ≤ cap) && PyData.strOk s
def trGlob (c : Tc) (x : Str) : ME := match c.t.gs.lookup x with
  | some (.int i) => eC (.int i)
  | some (.str s) => if strFit s then eC (.str s) else eNo
  | some (.fn _ _ _ _) => eC (.glo x)
  | some (.cl _ _ _) => eC (.glo x)
  | none => if c.t.fr.contains x then match tyNm x with
      | some n => eC (.ty n)
      | none => eNo
    else eNo
def trName (c : Tc) (x : Str) : ME := if isGlob (c.sc.names.lookup x) && nmOk x then trGlob c x else match slotOf c x with
  | some i => eVar i
  | none => eNo
def trConst : Const → ME
  | .int i => eC (.int i)
  | .bool b => eC (.bl b)
  | .none => eC .non
  | .str s => if strFit s then eC (.str s) else eNo
  | _ => eNo
def binT : Operator → Option (List D → Option RV)
  | .Add => some addD | .Sub => some subD | .Mult => some mulD | .Mod => some modD | .FloorDiv => some fdivD | .Pow => some powD
  | _ => none
def cmpT : CmpOp → Option (List D → Option RV)
  | .Eq => some eqD | .NotEq => some neD | .In => some inD | .NotIn => some notInD | .Lt => some ltD | .LtE => some leD | .Gt => some gtD | .GtE => some geD | .Is => some isND | .IsNot => some isNotND
/-- built-ins by name -/
def mtLook (t : Tbl) (name : Str) (n : Nat) (ks : List Str) : Option (Nat × List (Str × FunSem × List Pm)) := t.mt.lookup (name, n, ks)
/-- the own defs of a special name -/
def dunT (c : Tc) (name : Str) : List (Str × FunSem × List Pm) := match mtLook c.t name 0 [] with
  | some r => if r.1 + 1 ≤ c.lv then r.2 else []
  | none => []
def lenT (tb : List (Str × FunSem × List Pm)) : List D → Option RV := match tb with
  | [] => lenD
  | x :: r => lenX (x :: r)
def bltT (c : Tc) (x : Str) : Option (String × (List D → Option RV)) :=
  if x == "len" then some ("len", lenT (dunT c "__len__")) else if x == "all" then some ("all", allD) else if x == "any" then some ("any", anyD) else if x == "sum" then some ("sum", sumD)
  else if x == "max" then some ("max", maxD) else if x == "min" then some ("min", minD) else if x == "sorted" then some ("sorted", sortedD) else if x == "isinstance" then some ("isinstance", isiD c.t.cs c.t.fs) else if x == "repr" then some ("repr", reprX (dunT c "__repr__")) else none
def typT (c : Tc) (x : Str) : Option (String × (List D → Option RV)) :=
  if x == "list" then some ("list", listD) else if x == "tuple" then some ("tuple", tupleD) else if x == "int" then some ("int", intD) else if x == "set" then some ("set", setD) else if x == "dict" then some ("dict", dictD)
  else if x == "str" then some ("str", strX (dunT c "__str__")) else if x == "bool" then some ("bool", boolX c.t.cs (dunT c "__len__")) else none
def kwN (kws : List Keyword) : List Str := kws.filterMap (·.arg)
def shOf (shs : List Sh) (n : Nat) (ks : List Str) : Option (List Pm) := (shs.find? fun s => s.n == n && s.ks == ks).map (·.pms)
/-- whether the i-th argument is lent -/
def lentA : List Bool → List Pm → Nat → Bool
  | m :: ms, .arg j :: ps, i => (m && j == i) || lentA ms ps i
  | _ :: ms, .dft _ :: ps, i => lentA ms ps i
  | _, _, _ => false
def keepA (fs : List Bool) (pms : List Pm) : Nat → List ME → List ME
  | _, [] => []
  | i, m :: ms => (if lentA fs pms i then m else eKeep m) :: keepA fs pms (i + 1) ms
def keepM : List Bool → List ME → List ME
  | b :: bs, m :: ms => (if b then m else eKeep m) :: keepM bs ms
  | [], m :: ms => m :: keepM [] ms
  | _, [] => []
def callsOk (args : List Expr) (kws : List Keyword) : Bool := args.all notStar && kws.all (fun k => k.arg.isSome)
def trCall (c : Tc) (x : Str) (args : List Expr) (kws : List Keyword) (ms kms : List ME) : ME :=
  if isGlob (c.sc.names.lookup x) && nmOk x && callsOk args kws then match c.t.gs.lookup x with
    | some (.fn fs k np shs) => if k ≤ c.lv then
        if kws.isEmpty && !args.isEmpty && (np == some args.length) then eCall fs (keepM fs.modes ms)
        else match shOf shs args.length (kwN kws) with
          | some pms => eCallK fs (keepA fs.modes pms 0 (ms ++ kms)) pms
          | none => eNo
      else eNo
    | some (.cl fs k shs) => if k + 1 ≤ c.lv then match shOf shs args.length (kwN kws) with
        | some pms => eMake fs x (keepA fs.modes.tail pms 0 (ms ++ kms)) pms
        | none => eNo
      else eNo
    | some _ => eNo
    | none => if c.t.fr.contains x && kws.isEmpty && !args.isEmpty then match bltT c x with
        | some p => eOp p.2 ms
        | none => match typT c x with
          | some p => eOp p.2 ms
          | none => eNo
      else eNo
  else eNo
/-- a method's arguments: lent as the first class's says -/
def keepMt (tbl : List (Str × FunSem × List Pm)) (ms : List ME) : List ME := match tbl with
  | (_, f, pms) :: _ => keepA f.modes.tail pms 0 ms
  | [] => ms
def keepSelf (tbl : List (Str × FunSem × List Pm)) (m : ME) : ME := match tbl with
  | (_, f, _) :: _ => (match f.modes with | true :: _ => m | _ => eKeep m)
  | [] => m
def trOwn (c : Tc) (o : Expr) (name : Str) (apos pos : Pos) (args : List Expr) (kws : List Keyword) (m : ME) (ms kms : List ME) : ME :=
  if callsOk args kws && notCall0 o && (apos.endLine == pos.line) && decide (args.length + kws.length + 1 < 30) then match mtLook c.t name args.length (kwN kws) with
    | some r => if r.1 ≤ c.lv then eMeth r.2 name (keepSelf r.2 m) (keepMt r.2 (ms ++ kms)) else eNo
    | none => eNo
  else eNo
/-- o.name(..), o a name's list -/
def mutT (name : Str) : Option ((D → List D → Option (RV × D)) × Bool) := if name == "append" then some (appendM, true) else if name == "extend" then some (extendM, false) else none
def nameOf : Expr → Option Str
  | .Name x _ => some x
  | _ => none
def trAttr (c : Tc) (o : Expr) (name : Str) (apos pos : Pos) (args : List Expr) (kws : List Keyword) (m : ME) (ms kms : List ME) : ME :=
  let own := trOwn c o name apos pos args kws m ms kms
  if kws.isEmpty && args.all notStar && notCall0 o && (apos.endLine == pos.line) then match args, ms with
    | [e], [me] => if name == "append" then (match (nameOf o).bind (slotOf c) with | some i => eMut i appendM [eKeep me] | none => eNo)
      else if name == "extend" then (match (nameOf o).bind (slotOf c) with | some i => eMut i extendM [me] | none => eNo)
      else if name == "join" then eMt joinM m [me] else if name == "index" then eSq idxL idxT m [me] else if name == "count" then eSq cntL cntT m [me] else own
    | [], [] => if name == "pop" then (match (nameOf o).bind (slotOf c) with | some i => eMut i popM [] | none => eNo)
      else if name == "upper" then eMt upperM m [] else own
    | _, _ => own
  else own
def trAnd : List MT → MT
  | [] => tNo
  | [t] => t
  | t :: ts => tAnd t (trAnd ts)
def trOr : List MT → MT
  | [] => tNo
  | [t] => t
  | t :: ts => tOr t (trOr ts)
def vAnd : List ME → ME
  | [] => eNo
  | [t] => t
  | t :: ts => eAnd t (vAnd ts)
def vOr : List ME → ME
  | [] => eNo
  | [t] => t
  | t :: ts => eOr t (vOr ts)
def namesIx (c : Tc) : List Expr → Option (List Nat)
  | [] => some []
  | .Name x _ :: es => match storeOf c x with
    | some i => (namesIx c es).map (i :: ·)
    | none => none
  | _ => none
def trG (c : Tc) : Expr → Option Tg
  | .Name x _ => (storeOf c x).map .nm
  | .Tuple es _ _ => (namesIx c es).map .tp
  | _ => none
def isTupE : Expr → Bool
  | .Tuple .. => true
  | _ => false
/-- what is walked -/
def trI (c : Tc) (tr : Expr → ME) (tg e : Expr) : MI := match e with
  | .Call (.Name f _) [a] [] _ => if f == "range" then (if freeB c f && notStar a then iOf range1I [tr a] else iNo)
    else if f == "enumerate" then (if freeB c f && notStar a && isTupE tg then iOf enumI [tr a] else iNo)
    else iOf seqI [tr e]
  | .Call (.Name f _) [a, b] [] _ => if f == "range" then (if freeB c f && notStar a && notStar b then iOf range2I [tr a, tr b] else iNo)
    else iOf seqI [tr e]
  | _ => iOf seqI [tr e]
def ownOf (N : List Str) (scope : Scope) : List (Str × Nat) := scope.names.filterMap fun y => match y.2 with
  | .local => (ixOf N y.1).map fun i => (y.1, i)
  | .cell => (ixOf N y.1).map fun i => (y.1, i)
  | _ => none
def blkTc (c : Tc) (scope : Scope) : Tc := { c with sc := relS scope c.sc, fnc := fun x => scope.names.lookup x == some .cell }
def trIfs (tr : Expr → MT) : List Expr → MT
  | [] => RF.tYes
  | [e] => tr e
  | _ => tNo
def subL (xs ys : List Nat) : Bool := xs.all fun x => ys.contains x
/-- a comprehension: how its clauses go -/
def trClause (c : Tc) (tr : Expr → ME) (tt : Expr → MT) (vs : List Nat) (g : Comprehension) : Option Cl := match trG c g.target with
  | some k => if g.is_async == 0 && notSetE g.iter && subL k.ix vs then some ⟨trI c tr g.target g.iter, k, trIfs tt g.ifs, vs⟩ else none
  | none => none
def trComp (c : Tc) (tr : Tc → Expr → ME) (tt : Tc → Expr → MT) (new : D) (em : (Expr → ME) → D → Env → R D) (scope : Scope) (gens : List Comprehension) : ME :=
  let own := ownOf c.N scope
  let b := blkTc c scope
  if blkC c.N c.sc scope own then match gens with
    | [⟨t0, i0, f0, 0⟩] => match trClause b (tr b) (tt b) (own.map (·.2)) ⟨t0, i0, f0, 0⟩ with
      | some c0 => eComp new (em (tr b)) { c0 with it := trI c (tr c) t0 i0 } []
      | none => eNo
    | [⟨t0, i0, f0, 0⟩, ⟨t1, i1, f1, 0⟩] => match trG b t1 with
      | some k1 => match trClause b (tr b) (tt b) (own.map (·.2)) ⟨t0, i0, f0, 0⟩, trClause b (tr b) (tt b) k1.ix ⟨t1, i1, f1, 0⟩ with
        | some c0, some c1 => if subL c1.vs c0.vs then eComp new (em (tr b)) { c0 with it := trI c (tr c) t0 i0 } [c1] else eNo
        | _, _ => eNo
      | none => eNo
    | [⟨t0, i0, f0, 0⟩, ⟨t1, i1, f1, 0⟩, ⟨t2, i2, f2, 0⟩] => match trG b t1, trG b t2 with
      | some k1, some k2 => match trClause b (tr b) (tt b) (own.map (·.2)) ⟨t0, i0, f0, 0⟩, trClause b (tr b) (tt b) (k1.ix ++ k2.ix) ⟨t1, i1, f1, 0⟩, trClause b (tr b) (tt b) k2.ix ⟨t2, i2, f2, 0⟩ with
        | some c0, some c1, some c2 => if subL c1.vs c0.vs && subL c2.vs c1.vs then eComp new (em (tr b)) { c0 with it := trI c (tr c) t0 i0 } [c1, c2] else eNo
        | _, _, _ => eNo
      | _, _ => eNo
    | _ => eNo
  else eNo
def trLc1 (c : Tc) (tr : Tc → Expr → ME) (tt : Tc → Expr → MT) (elt : Expr) (scope : Scope) (gens : List Comprehension) : ME :=
  let own := ownOf c.N scope
  let b := blkTc c scope
  match gens with
    | [⟨t0, i0, f0, 0⟩] => if blkC c.N c.sc scope own then match trClause b (tr b) (tt b) (own.map (·.2)) ⟨t0, i0, f0, 0⟩ with
        | some c0 => eLc (own.map (·.2)) (trI c (tr c) t0 i0) c0.k c0.t (tr b elt)
        | none => eNo
      else eNo
    | [_, _] => trComp c tr tt (.lst []) (fun tr => emLp (tr elt)) scope gens
    | _ => eNo
/-- -1, written so -/
def isM1 : Expr → Bool
  | .UnaryOp .USub (.Constant (.int 1) _ _) _ => true
  | _ => false
mutual
def trE : Nat → Tc → Expr → ME
  | 0, _, _ => eNo
  | n + 1, c, e => match e with
    | .Constant k _ _ => trConst k
    | .Name x _ => trName c x
    | .BinOp a op b _ => match binT op with
      | some f => eOp f [trE n c a, trE n c b]
      | none => eNo
    | .UnaryOp .USub a _ => eOp negD [trE n c a]
    | .UnaryOp .Not a _ => eNot (trE n c a)
    | .BoolOp .And es _ => vAnd (es.map (trE n c))
    | .BoolOp .Or es _ => vOr (es.map (trE n c))
    | .Compare a [op] [b] _ => if notSetE b then match cmpT op with
        | some f => eOp f [trE n c a, trE n c b]
        | none => eNo
      else eNo
    | .Compare a [op, op'] [b, d] _ => if notSetE d then match cmpT op, cmpT op' with
        | some f, some f' => eChain f f' (trE n c a) (trE n c b) (trE n c d)
        | _, _ => eNo
      else eNo
    | .IfExp q a b _ => eIf (trT n c q) (trE n c a) (trE n c b)
    | .Tuple es _ _ => if es.all notStar then eTup (es.map (trE n c)) else eNo
    | .List es _ => if es.all notStar then eLst (es.map (trE n c)) else eNo
    | .Dict [] [] _ => eDic0
    | .Dict [some k] [v] _ => eDic1 (trE n c k) (trE n c v)
    | .Subscript a (.Slice none none none _) _ => eSl (trE n c a) none none
    | .Subscript a (.Slice (some l) none none _) _ => eSl (trE n c a) (some (trE n c l)) none
    | .Subscript a (.Slice none (some h) none _) _ => eSl (trE n c a) none (some (trE n c h))
    | .Subscript a (.Slice (some l) (some h) none _) _ => eSl (trE n c a) (some (trE n c l)) (some (trE n c h))
    | .Subscript a (.Slice none none (some st) _) _ => if isM1 st then eOp revD [trE n c a] else eNo
    | .Subscript a b _ => if plainIx b then eOp ixD [trE n c a, trE n c b] else eNo
    | .Attribute o f _ => if notCall0 o then eOp (fldD c.t.fl f) [trE n c o] else eNo
    | .Call (.Name x _) args kws _ => trCall c x args kws (args.map (trE n c)) (kws.map fun k => trE n c k.value)
    | .Call (.Attribute o name apos) args kws pos => trAttr c o name apos pos args kws (trE n c o) (args.map (trE n c)) (kws.map fun k => trE n c k.value)
    | .JoinedStr vs _ => match vs with
      | _ :: _ :: _ => eFst (vs.map (trE n c))
      | _ => eNo
    | .FormattedValue a k sp _ => match sp with
      | none => if k == (-1) then eOp fmtD [trE n c a] else eNo
      | some _ => eNo
    | .ListComp elt gens scope _ => trLc1 c (trE n) (trT n) elt scope gens
    | .SetComp elt gens scope _ => match gens with
      | [_, _] => trComp c (trE n) (trT n) (.set []) (fun tr => emSp (tr elt)) scope gens
      | _ => eNo
    | .DictComp kx vx gens scope _ => match gens with
      | [_] => trComp c (trE n) (trT n) (.dic [] []) (fun tr => emDp (tr kx) (tr vx)) scope gens
      | [_, _, _] => trComp c (trE n) (trT n) (.dic [] []) (fun tr => emDp (tr kx) (tr vx)) scope gens
      | _ => eNo
    | _ => eNo
def trT : Nat → Tc → Expr → MT
  | 0, _, _ => tNo
  | n + 1, c, e => match e with
    | .UnaryOp .Not a _ => tNot (trT n c a)
    | .BoolOp .And es _ => trAnd (es.map (trT n c))
    | .BoolOp .Or es _ => trOr (es.map (trT n c))
    | .Compare a [op] [b] _ => if notSetE b then match cmpT op with
        | some f => tOf (eOp f [trE n c a, trE n c b])
        | none => tNo
      else tNo
    | .Compare a [op, op'] [b, d] _ => if notSetE d then match cmpT op, cmpT op' with
        | some f, some f' => tOf (eChain f f' (trE n c a) (trE n c b) (trE n c d))
        | _, _ => tNo
      else tNo
    | e => if plainTest e then tOf (trE n c e) else tNo
end
end RF
end
section
/-! RTs: .. and that it does so. -/
namespace RF
open PySem L2

section
variable (P : Program) (w : World) (K : PySem.W.Frag) (mg : Str → Option Value) (base : Heap)
def GbOk (x : Str) : Gb → Prop
  | .fn fs k np shs => ∃ f fd ps, FnOk P w K mg base (L2.CX P w) k f fd ps (spF K ⟨mg, P, w⟩ fs) ∧ mg x = some (.ref f) ∧ PySem.W.keepIn K (.ref f) = true ∧ (∀ n, np = some n → Binds K fd ps []) ∧ ∀ s ∈ shs, BindP K ⟨mg, P, w⟩ fd ps s.n s.ks s.pms
  | .cl fs k shs => ∃ C f fd ps, Mk K C f ∧ FnOk P w K mg base (L2.CX P w) k f fd ps (spF K ⟨mg, P, w⟩ fs) ∧ (∃ ms, fs.modes = true :: ms) ∧ mg x = some (.ref C) ∧ ∀ s ∈ shs, SelfP K ⟨mg, P, w⟩ fd ps s.n s.ks s.pms
  | .int i => ∃ t, mg x = some (.int i t)
  | .str s => ∃ t, mg x = some (.str s t)
/-- a class's method -/
def MtOk (name : Str) (n : Nat) (ks : List Str) (kk : Nat) (c : Str) (fs : FunSem) (pms : List Pm) : Prop := ∃ C fa fd ps k, k ≤ kk ∧ mg c = some (.ref C) ∧ Cls K C ∧ Meth K C name fa ∧ FnOk P w K mg base (L2.CX P w) k fa fd ps (spF K ⟨mg, P, w⟩ fs) ∧ SelfP K ⟨mg, P, w⟩ fd ps n ks pms
structure TblOk (t : Tbl) : Prop where
  gs : ∀ x e, t.gs.lookup x = some e → GbOk P w K mg base x e
  fr : ∀ x, t.fr.contains x = true → mg x = none
  md : ModF K ⟨mg, P, w⟩ t.cs t.fs
  fl : FldF K ⟨mg, P, w⟩ t.fl
  mt : ∀ q r, t.mt.lookup q = some r → ∀ c f, r.2.lookup c = some f → MtOk P w K mg base q.1 q.2.1 q.2.2 r.1 c f.1 f.2
end
structure CxOk (X : Cx) (g : Bg) (W : WX) (c : Tc) : Prop where
  hN : X.N = c.N
  nd : X.N.Nodup
  sc : X.env.scope = c.sc
  fn : X.fn = c.fnc
  hK : X.K = g.K
  hG : md X = g.mg
  hc : X.calm = true
  room : Room c.lv X.A
  tk : Takes X W
  po : PassesOwn (model X.prog X.w) X.A X.env X.xe
  tb : TblOk X.prog X.w X.K X.mg X.base c.t
section
variable {X : Cx} {g : Bg} {W : WX} {c : Tc}
theorem CxOk.hu (h : CxOk X g W c) : X.A.units + 65 < cLine := by have := h.room.un; omega
theorem CxOk.blk (h : CxOk X g W c) (s : Shared) (H : Hp) (scope : Scope) (C : Addr) (cl : List (Str × Addr)) (fp : List Addr) : CxOk (X.blk s H scope (compEnvC scope cl C X.env) fp) g W0 (blkTc c scope) where
  hN := h.hN
  nd := h.nd
  sc := by
    show relS scope X.env.scope = relS scope c.sc
    rw [h.sc]
  fn := rfl
  hK := h.hK
  hG := h.hG
  hc := h.hc
  room := h.room
  tk := fun u s' ⟨a, B, sI, pins, σ, H, cls, d, e, I, nb, up, sky, na, os, ag, w⟩ => w.elim
  po := PassesOwn.never
  tb := h.tb
theorem ixOf_get : ∀ {N : List Str} {x : Str} {i : Nat}, ixOf N x = some i → N[i]? = some x
  | [], _, _, h => by cases h
  | y :: N, x, i, h => by
    unfold ixOf at h
    split at h
    · rename_i e
      cases h
      rw [beq_iff_eq.mp e]; rfl
    · cases e : ixOf N x with
      | none => rw [e] at h; cases h
      | some j =>
        rw [e] at h; cases h
        simpa using ixOf_get e
theorem SE.no {e : Expr} : SE X g W e eNo := ⟨fun pins s σ H Q I h => by obtain ⟨T, ρ, F, R, q⟩ := h; exact q.elim⟩
theorem ST.no {e : Expr} : ST X g W e tNo := ⟨fun pins s σ H Q I h => by obtain ⟨T, ρ, F, R, q⟩ := h; exact q.elim⟩
theorem SW.no {e : Expr} : SW X g W e tNo := ⟨fun w pins s σ H Q I h => by obtain ⟨T, ρ, F, R, q⟩ := h; exact q.elim⟩
theorem SI.no {tg e : Expr} : SI X g W tg e iNo := ⟨fun pins s σ H Q I h => by obtain ⟨T, ρ, F, R, q⟩ := h; exact q.elim⟩
theorem STs.no {es : List Expr} : STs X g W es tNo := ⟨fun pins s σ H Q I h => by obtain ⟨T, ρ, F, R, q⟩ := h; exact q.elim⟩
theorem nm1 {x : Str} (h : nmOk x = true) : (x == ("__debug__" : Str)) = false := by
  unfold nmOk at h; simp only [Bool.and_eq_true, Bool.not_eq_true'] at h; exact h.1.1
theorem nm2 {x : Str} (h : nmOk x = true) : (x == ("__classdict__" : Str)) = false := by
  unfold nmOk at h; simp only [Bool.and_eq_true, Bool.not_eq_true'] at h; exact h.1.2
theorem nm3 {x : Str} (h : nmOk x = true) : x ≠ ("__name__" : Str) := by
  unfold nmOk at h; simp only [Bool.and_eq_true, Bool.not_eq_true'] at h
  intro e; subst e; exact absurd h.2 (by decide +kernel)
theorem glob_of (h : CxOk X g W c) {x : Str} (e : isGlob (c.sc.names.lookup x) = true) : Gl X x := by
  show X.env.scope.names.lookup x = _
  rw [h.sc]
  unfold isGlob at e
  split at e
  · assumption
  · cases e
theorem slot_pe (h : CxOk X g W c) {x : Str} {i : Nat} {pos : Pos} (e : slotOf c x = some i) : PE X (.Name x pos) (tVar i) := by
  unfold slotOf at e
  split at e
  · rename_i b
    simp only [Bool.and_eq_true] at b
    refine pe_var (by rw [h.hN]; exact ixOf_get e) ?_ (nm1 b.2) (nm2 b.2)
    show X.env.scope.names.lookup x = _ ∨ _
    have b1 := b.1
    unfold isLocK at b1
    rw [h.sc]
    split at b1
    · rename_i z; exact .inl z
    · rename_i z; exact .inr (.inl z)
    · rename_i z; exact .inr (.inr z)
    · cases b1
  · cases e
theorem store_nm (h : CxOk X g W c) {x : Str} {i : Nat} (e : storeOf c x = some i) : NmOk X x i := by
  unfold storeOf at e
  unfold NmOk L2.Loc
  rw [h.sc, h.fn, h.hN]
  split at e
  · rename_i z; exact ⟨ixOf_get e, .inl z, .inr z⟩
  · rename_i z
    split at e
    · rename_i z2; exact ⟨ixOf_get e, .inr z, .inl z2⟩
    · cases e
  · cases e
theorem tyNm_boot {x : Str} {n : String} (e : tyNm x = some n) : bootBuiltins x = some (.type n) := by
  unfold tyNm at e
  repeat' split at e
  all_goals first
    | (rename_i z; cases e; rw [beq_iff_eq.mp z]; rfl)
    | (rename_i z _ ; cases e; rw [beq_iff_eq.mp z]; rfl)
    | cases e
theorem strFit_rep {K : PySem.W.Frag} {mg : Mg} {s : Str} (h : strFit s = true) (F : Hp) : Rep K mg F (.str s) (.str s) := by
  unfold strFit at h
  simp only [Bool.and_eq_true, decide_eq_true_eq] at h
  unfold Rep
  exact ⟨rfl, Nat.le_trans h.1 cap_line, h.2⟩
theorem sound_name (h : CxOk X g W c) {x : Str} {pos : Pos} : SE X g W (.Name x pos) (trName c x) := by
  unfold trName
  split
  · rename_i b
    simp only [Bool.and_eq_true] at b
    have hg := glob_of h b.1
    unfold trGlob
    split
    · rename_i i e
      obtain ⟨t, hm⟩ := h.tb.gs _ _ e
      exact SE.c (pe_glob (v := .int i) hg hm ⟨t, rfl⟩ (nm1 b.2)) rep_int
    · rename_i s e
      obtain ⟨t, hm⟩ := h.tb.gs _ _ e
      split
      · rename_i f
        exact SE.c (pe_glob (v := .str s) hg hm ⟨t, rfl⟩ (nm1 b.2)) (strFit_rep f)
      · exact SE.no
    · rename_i e
      obtain ⟨f, fd, ps, _, hm, _⟩ := h.tb.gs _ _ e
      refine SE.c (pe_glob (v := .ref f) hg hm rfl (nm1 b.2)) fun F => ?_
      simp only [Rep]
      exact ⟨f, rfl, by rw [← h.hG]; exact hm⟩
    · rename_i e
      obtain ⟨C, f, fd, ps, _, _, _, hm, _⟩ := h.tb.gs _ _ e
      refine SE.c (pe_glob (v := .ref C) hg hm rfl (nm1 b.2)) fun F => ?_
      simp only [Rep]
      exact ⟨C, rfl, by rw [← h.hG]; exact hm⟩
    · split
      · rename_i f
        split
        · rename_i n e
          exact SE.c (pe_bltn (v := .ty n) hg (h.tb.fr _ f) (tyNm_boot e) rfl (nm3 b.2) (nm1 b.2)) fun F => by simp [Rep]
        · exact SE.no
      · exact SE.no
  · split
    · rename_i i e
      exact SE.var (slot_pe h e)
    · exact SE.no
theorem sound_const {k : Const} {j : Nat} {pos : Pos} : SE X g W (.Constant k j pos) (trConst k) := by
  cases k <;> simp only [trConst] <;> try exact SE.no
  all_goals first
    | exact SE.c pe_int rep_int
    | exact SE.c pe_bl rep_bl
    | exact SE.c pe_non rep_non
    | (split
       · rename_i f; exact SE.c pe_str (strFit_rep f)
       · exact SE.no)
theorem bin_ok (h : CxOk X g W c) {op : Operator} {f : List D → Option RV} (e : binT op = some f) : Op2 X g (binaryOp op) f := by
  cases op <;> simp only [binT] at e <;> try (cases e)
  · exact op2_add h.hK
  · exact op2_sub
  · exact op2_mul h.hK
  · exact op2_mod
  · exact op2_pow
  · exact op2_fdiv
theorem cmp_ok (h : CxOk X g W c) {op : CmpOp} {f : List D → Option RV} (e : cmpT op = some f) : Op2 X g (compareOp op) f := by
  have hu := h.hu
  cases op <;> simp only [cmpT] at e <;> cases e
  · exact op2_eq h.hK (by omega)
  · exact op2_ne h.hK (by omega)
  · exact op2_lt h.hK (by omega)
  · exact op2_le h.hK (by omega)
  · exact op2_gt h.hK (by omega)
  · exact op2_ge h.hK (by omega)
  · exact op2_isN
  · exact op2_isNotN
  · exact op2_in h.hK (by omega)
  · exact op2_notIn h.hK (by omega)
theorem if_bl {p : Prop} [Decidable p] {b : Bool} {rv : RV} (h : (if p then some (RV.val (.bl b)) else none) = some rv) : ∃ b, rv = .val (.bl b) := by
  split at h
  · cases h; exact ⟨_, rfl⟩
  · cases h
theorem cmp_bl {op : CmpOp} {f : List D → Option RV} (e : cmpT op = some f) : ∀ ds rv, f ds = some rv → ∃ b, rv = .val (.bl b) := by
  intro ds rv q
  cases op <;> simp only [cmpT] at e <;> cases e
  · unfold eqD at q; split at q
    · exact if_bl q
    · cases q
  · unfold neD at q; split at q
    · exact if_bl q
    · cases q
  all_goals first
    | (unfold ltD at q; split at q <;> first | (cases q; exact ⟨_, rfl⟩) | (obtain ⟨b, _, rfl⟩ := Option.map_eq_some_iff.mp q; exact ⟨_, rfl⟩) | (cases q; done))
    | (unfold leD at q; split at q <;> first | (cases q; exact ⟨_, rfl⟩) | (obtain ⟨b, _, rfl⟩ := Option.map_eq_some_iff.mp q; exact ⟨_, rfl⟩) | (cases q; done))
    | (unfold gtD at q; split at q <;> first | (cases q; exact ⟨_, rfl⟩) | (obtain ⟨b, _, rfl⟩ := Option.map_eq_some_iff.mp q; exact ⟨_, rfl⟩) | (cases q; done))
    | (unfold geD at q; split at q <;> first | (cases q; exact ⟨_, rfl⟩) | (obtain ⟨b, _, rfl⟩ := Option.map_eq_some_iff.mp q; exact ⟨_, rfl⟩) | (cases q; done))
    | (unfold isND at q; split at q <;> cases q <;> exact ⟨_, rfl⟩)
    | (unfold isNotND at q; split at q <;> cases q <;> exact ⟨_, rfl⟩)
    | (unfold inD at q; cases z : inB ds with
       | none => rw [z] at q; cases q
       | some b => rw [z] at q; cases q; exact ⟨_, rfl⟩)
    | (unfold notInD at q; cases z : inB ds with
       | none => rw [z] at q; cases q
       | some b => rw [z] at q; cases q; exact ⟨_, rfl⟩)
theorem SA.of {f : Expr → ME} : ∀ {es : List Expr}, (∀ e ∈ es, SE X g W e (f e)) → es.all notStar = true → SA X g W es (es.map f)
  | [], _, _ => SA.nil
  | e :: es, h, s => by
    simp only [List.all_cons, Bool.and_eq_true] at s
    exact SA.cons (h e List.mem_cons_self) (SA.of (fun e' he => h e' (List.mem_cons_of_mem _ he)) s.2) (star_ok s.1)
end
end RF
end
section
/-! RTc: calls, comprehensions, the whole of expressions. -/
namespace RF
open PySem L2
section
variable {X : Cx} {g : Bg} {W : WX} {c : Tc}
theorem keepA_len {fs : List Bool} {pms : List Pm} : ∀ {i : Nat} {ms : List ME}, (keepA fs pms i ms).length = ms.length
  | _, [] => rfl
  | i, m :: ms => by simp only [keepA, List.length_cons, keepA_len]
theorem keepA_append {fs : List Bool} {pms : List Pm} : ∀ {i : Nat} {a b : List ME}, keepA fs pms i (a ++ b) = keepA fs pms i a ++ keepA fs pms (i + a.length) b
  | i, [], b => rfl
  | i, m :: a, b => by
    simp only [List.cons_append, keepA, List.length_cons, keepA_append (i := i + 1) (a := a) (b := b)]
    rw [show i + 1 + a.length = i + (a.length + 1) by omega]
theorem SA.keepA {fs : List Bool} {pms : List Pm} {f : Expr → ME} : ∀ {es : List Expr} {i : Nat}, (∀ e ∈ es, SE X g W e (f e)) → es.all notStar = true → SA X g W es (keepA fs pms i (es.map f))
  | [], _, _, _ => SA.nil
  | e :: es, i, h, s => by
    simp only [List.all_cons, Bool.and_eq_true] at s
    refine SA.cons ?_ (SA.keepA (fun e' he => h e' (List.mem_cons_of_mem _ he)) s.2) (star_ok s.1)
    split
    · exact h e List.mem_cons_self
    · exact SE.keep (h e List.mem_cons_self)
theorem SKw.keepA {fs : List Bool} {pms : List Pm} {f : Keyword → ME} : ∀ {kws : List Keyword} {i : Nat}, (∀ k ∈ kws, SE X g W k.value (f k)) → SKw X g W kws (keepA fs pms i (kws.map f))
  | [], _, _ => SKw.nil
  | ⟨nm, e, kp⟩ :: kws, i, h => by
    refine SKw.cons ?_ (SKw.keepA fun k' hk => h k' (List.mem_cons_of_mem _ hk))
    split
    · exact h _ List.mem_cons_self
    · exact SE.keep (h _ List.mem_cons_self)
theorem SA.keepM {f : Expr → ME} : ∀ {es : List Expr} {bs : List Bool}, (∀ e ∈ es, SE X g W e (f e)) → es.all notStar = true → SA X g W es (keepM bs (es.map f))
  | [], bs, _, _ => by cases bs <;> exact SA.nil
  | e :: es, [], h, s => by
    simp only [List.all_cons, Bool.and_eq_true] at s
    exact SA.cons (h e List.mem_cons_self) (SA.keepM (bs := []) (fun e' he => h e' (List.mem_cons_of_mem _ he)) s.2) (star_ok s.1)
  | e :: es, b :: bs, h, s => by
    simp only [List.all_cons, Bool.and_eq_true] at s
    refine SA.cons ?_ (SA.keepM (bs := bs) (fun e' he => h e' (List.mem_cons_of_mem _ he)) s.2) (star_ok s.1)
    split
    · exact h e List.mem_cons_self
    · exact SE.keep (h e List.mem_cons_self)
theorem dunT_ok (h : CxOk X g W c) {name : Str} : TbOk X name (dunT c name) := fun cc ff q => by
  unfold dunT at q
  split at q
  · rename_i r e
    split at q
    · rename_i hle
      obtain ⟨C, fa, fd, ps, k, hk, h1, h2, h3, h4, h5⟩ := h.tb.mt _ _ e cc ff q
      exact ⟨C, fa, fd, ps, k, ⟨h1, h2, h3, h4, h.room.mono (by omega), h5⟩, h.room.mono (by omega)⟩
    · cases q
  · cases q
theorem cb_lenT (h : CxOk X g W c) : Cb X g (.builtin "len") (lenT (dunT c "__len__")) := by
  have := dunT_ok h (name := "__len__")
  generalize dunT c "__len__" = tb at this
  cases tb with
  | nil => exact cb_len h.hK h.hG
  | cons x r => exact cb_lenX h.hK h.hG this
theorem blt_ok (h : CxOk X g W c) {x : Str} {p : String × (List D → Option RV)} (e : bltT c x = some p) : Cb X g (.builtin p.1) p.2 ∧ bootBuiltins x = some (.builtin p.1) := by
  have hu := h.hu
  have M : ModF g.K g.mg c.t.cs c.t.fs := by rw [← h.hK, ← h.hG]; exact h.tb.md
  unfold bltT at e
  split at e
  · rename_i z; cases e; rw [beq_iff_eq.mp z]; exact ⟨cb_lenT h, rfl⟩
  split at e
  · rename_i z; cases e; rw [beq_iff_eq.mp z]; exact ⟨cb_all h.hK h.hc, rfl⟩
  split at e
  · rename_i z; cases e; rw [beq_iff_eq.mp z]; exact ⟨cb_any h.hK h.hc, rfl⟩
  split at e
  · rename_i z; cases e; rw [beq_iff_eq.mp z]; exact ⟨cb_sum h.hK h.hc, rfl⟩
  split at e
  · rename_i z; cases e; rw [beq_iff_eq.mp z]; exact ⟨cb_max h.hc, rfl⟩
  split at e
  · rename_i z; cases e; rw [beq_iff_eq.mp z]; exact ⟨cb_min h.hK h.hc (by omega), rfl⟩
  split at e
  · rename_i z; cases e; rw [beq_iff_eq.mp z]; exact ⟨cb_sorted h.hK h.hG h.hc (by omega), rfl⟩
  split at e
  · rename_i z; cases e; rw [beq_iff_eq.mp z]; exact ⟨cb_isi h.hK M, rfl⟩
  split at e
  · rename_i z; cases e; rw [beq_iff_eq.mp z]; exact ⟨cb_reprX h.hK h.hG (dunT_ok h), rfl⟩
  cases e
theorem typ_ok (h : CxOk X g W c) {x : Str} {p : String × (List D → Option RV)} (e : typT c x = some p) : Cb X g (.type p.1) p.2 ∧ bootBuiltins x = some (.type p.1) := by
  unfold typT at e
  split at e
  · rename_i z; cases e; rw [beq_iff_eq.mp z]; exact ⟨cb_list h.hK h.hc, rfl⟩
  split at e
  · rename_i z; cases e; rw [beq_iff_eq.mp z]; exact ⟨cb_tuple h.hK, rfl⟩
  split at e
  · rename_i z; cases e; rw [beq_iff_eq.mp z]; exact ⟨cb_int, rfl⟩
  split at e
  · rename_i z; cases e; rw [beq_iff_eq.mp z]; exact ⟨cb_set h.hK h.hG h.hc, rfl⟩
  split at e
  · rename_i z; cases e; rw [beq_iff_eq.mp z]; exact ⟨cb_dict h.hK h.hc, rfl⟩
  split at e
  · rename_i z; cases e; rw [beq_iff_eq.mp z]; exact ⟨cb_strX h.hK h.hG (dunT_ok h), rfl⟩
  split at e
  · rename_i z; cases e; rw [beq_iff_eq.mp z]
    refine ⟨cb_boolX h.hK h.hG (dunT_ok h) fun c0 hc0 C hC => ?_, rfl⟩
    obtain ⟨C', q⟩ := h.tb.md.cls c0 hc0
    have e1 : X.mg c0 = some (.ref C') := q.at_
    rw [hC] at e1
    cases e1
    exact q.nb
  cases e
theorem shOf_in {shs : List Sh} {n : Nat} {ks : List Str} {pms : List Pm} (e : shOf shs n ks = some pms) : ∃ s ∈ shs, s.n = n ∧ s.ks = ks ∧ s.pms = pms := by
  unfold shOf at e
  cases q : shs.find? fun s => s.n == n && s.ks == ks with
  | none => rw [q] at e; cases e
  | some s =>
    rw [q] at e; cases e
    have z := List.find?_some q
    simp only [Bool.and_eq_true, beq_iff_eq] at z
    exact ⟨s, List.mem_of_find?_eq_some q, z.1, z.2, rfl⟩
theorem kw_len : ∀ {kws : List Keyword}, kws.all (fun k => k.arg.isSome) = true → (kws.filterMap (·.arg)).length = kws.length
  | [], _ => rfl
  | k :: kws, h => by
    simp only [List.all_cons, Bool.and_eq_true] at h
    obtain ⟨nm, e, p⟩ := k
    cases nm with
    | none => cases h.1
    | some y => simp only [List.filterMap_cons, List.length_cons, kw_len h.2]
theorem sound_call (h : CxOk X g W c) {x : Str} {p pos : Pos} {args : List Expr} {kws : List Keyword} {f : Expr → ME} (ih : ∀ e, SE X g W e (f e)) : SE X g W (.Call (.Name x p) args kws pos) (trCall c x args kws (args.map f) (kws.map fun k => f k.value)) := by
  unfold trCall
  split
  · rename_i b
    simp only [Bool.and_eq_true, callsOk] at b
    obtain ⟨⟨b1, b2⟩, b3, b4⟩ := b
    have hg := glob_of h b1
    split
    · rename_i fs k np shs e
      obtain ⟨fa, fd, ps, Fn, hm, hk, hnp, hsh⟩ := h.tb.gs _ _ e
      split
      · rename_i hle
        split
        · rename_i z
          simp only [Bool.and_eq_true, beq_iff_eq] at z
          cases kws with
          | cons k ks => simp at z
          | nil =>
            cases args with
            | nil => simp at z
            | cons e es => exact SE.call h.hK h.hG Fn (h.room.mono hle) hg hm hk (hnp _ z.2) h.tk (SA.keepM (fun e _ => ih e) b3) b3 (nm1 b2)
        · split
          · rename_i pms e2
            obtain ⟨s, hs, e3, e4, e5⟩ := shOf_in e2
            subst e5
            have hb := hsh s hs
            rw [e3, e4] at hb
            rw [keepA_append]
            exact SE.callK h.hK h.hG Fn (h.room.mono hle) hg hm hk hb h.tk (SA.keepA (fun e _ => ih e) b3) (SKw.keepA fun k _ => ih _) (by rw [keepA_len, List.length_map]) (by rw [keepA_len, List.length_map, kw_len b4]) b3 b4 (nm1 b2)
          · exact SE.no
      · exact SE.no
    · rename_i fs k shs e
      obtain ⟨C, fa, fd, ps, M, Fn, hm0, hm, hsh⟩ := h.tb.gs _ _ e
      split
      · rename_i hle
        split
        · rename_i pms e2
          obtain ⟨s, hs, e3, e4, e5⟩ := shOf_in e2
          subst e5
          have hb := hsh s hs
          rw [e3, e4] at hb
          rw [keepA_append]
          exact SE.make h.hK h.hG M Fn hm0 (h.room.mono hle) hg hm hb h.tk (SA.keepA (fun e _ => ih e) b3) (SKw.keepA fun k _ => ih _) (by rw [keepA_len, List.length_map]) (by rw [keepA_len, List.length_map, kw_len b4]) b3 b4 (nm1 b2)
        · exact SE.no
      · exact SE.no
    · exact SE.no
    · split
      · rename_i z
        simp only [Bool.and_eq_true] at z
        cases kws with
        | cons k ks => simp at z
        | nil =>
          cases args with
          | nil => simp at z
          | cons e es =>
            have hf := h.tb.fr _ z.1.1
            split
            · rename_i q e2
              obtain ⟨q1, q2⟩ := blt_ok h e2
              exact SE.callB q1 hg hf q2 (SA.of (fun e _ => ih e) b3) b3 (nm3 b2) (nm1 b2)
            · split
              · rename_i q e2
                obtain ⟨q1, q2⟩ := typ_ok h e2
                exact SE.callTy q1 hg hf q2 (SA.of (fun e _ => ih e) b3) b3 (nm3 b2) (nm1 b2)
              · exact SE.no
      · exact SE.no
  · exact SE.no
theorem sound_own (h : CxOk X g W c) {o : Expr} {name : Str} {apos pos : Pos} {args : List Expr} {kws : List Keyword} {f : Expr → ME} (ih : ∀ e, SE X g W e (f e)) :
    SE X g W (.Call (.Attribute o name apos) args kws pos) (trOwn c o name apos pos args kws (f o) (args.map f) (kws.map fun k => f k.value)) := by
  unfold trOwn
  split
  · rename_i b
    simp only [Bool.and_eq_true, callsOk] at b
    obtain ⟨⟨⟨⟨b3, b4⟩, b5⟩, b6⟩, b7⟩ := b
    split
    · rename_i r e
      split
      · rename_i hle
        have ho : SE X g W o (keepSelf r.2 (f o)) := by
          unfold keepSelf
          split
          · split
            · exact ih o
            · exact SE.keep (ih o)
          · exact ih o
        have hT : ∀ cc ff, r.2.lookup cc = some ff → ∃ C fa fd ps k, MethF X name args.length (kws.filterMap (·.arg)) cc ff.1 ff.2 C fa fd ps k := fun cc ff q => by
          obtain ⟨C, fa, fd, ps, k, hk, h1, h2, h3, h4, h5⟩ := h.tb.mt _ _ e cc ff q
          exact ⟨C, fa, fd, ps, k, h1, h2, h3, h4, h.room.mono (Nat.le_trans hk hle), h5⟩
        have fin : ∀ {bs : List Bool} {pms : List Pm}, SE X g W (.Call (.Attribute o name apos) args kws pos) (eMeth r.2 name (keepSelf r.2 (f o)) (keepA bs pms 0 (args.map f ++ kws.map fun k => f k.value))) := fun {bs pms} => by
          rw [keepA_append]
          exact SE.meth h.hK h.hG hT h.tk ho (SA.keepA (fun e _ => ih e) b3) (SKw.keepA fun k _ => ih _) (by rw [keepA_len, List.length_map]) (by rw [keepA_len, List.length_map, kw_len b4]) b3 b4 (base_ok b5) b6 b7
        unfold keepMt
        split
        · exact fin
        · have kk : SKw X g W kws (kws.map fun k => f k.value) := by
            clear fin hT e hle b4 b7
            induction kws with
            | nil => exact SKw.nil
            | cons k ks ih2 => obtain ⟨nm, e, kp⟩ := k; exact SKw.cons (ih e) ih2
          exact SE.meth h.hK h.hG hT h.tk ho (SA.of (fun e _ => ih e) b3) kk (by rw [List.length_map]) (by rw [List.length_map, kw_len b4]) b3 b4 (base_ok b5) b6 b7
      · exact SE.no
    · exact SE.no
  · exact SE.no
theorem nameOf_some {o : Expr} {x : Str} (h : nameOf o = some x) : ∃ p, o = .Name x p := by
  cases o <;> simp only [nameOf] at h <;> cases h
  exact ⟨_, rfl⟩
theorem slot_o (h : CxOk X g W c) {o : Expr} {i : Nat} (e : (nameOf o).bind (slotOf c) = some i) : PE X o (tVar i) := by
  cases q : nameOf o with
  | none => rw [q] at e; cases e
  | some x =>
    rw [q] at e
    obtain ⟨p, rfl⟩ := nameOf_some q
    exact slot_pe h e
theorem sound_attr (h : CxOk X g W c) {o : Expr} {name : Str} {apos pos : Pos} {args : List Expr} {kws : List Keyword} {f : Expr → ME} (ih : ∀ e, SE X g W e (f e)) :
    SE X g W (.Call (.Attribute o name apos) args kws pos) (trAttr c o name apos pos args kws (f o) (args.map f) (kws.map fun k => f k.value)) := by
  unfold trAttr
  simp only
  split
  · rename_i b
    simp only [Bool.and_eq_true] at b
    obtain ⟨⟨⟨b1, b2⟩, b3⟩, b4⟩ := b
    cases kws with
    | cons k ks => simp at b1
    | nil =>
      cases args with
      | nil =>
        simp only [List.map_nil]
        split
        · rename_i z
          rw [beq_iff_eq.mp z]
          split
          · rename_i i e; exact SE.pop (slot_o h e) (base_ok b3) b4
          · exact SE.no
        · split
          · rename_i z; rw [beq_iff_eq.mp z]; exact SE.upper (ih o) (base_ok b3) b4
          · exact sound_own (args := []) (kws := []) h ih
      | cons e es =>
        cases es with
        | cons e' es => exact sound_own (args := e :: e' :: es) (kws := []) h ih
        | nil =>
          simp only [List.all_cons, Bool.and_eq_true] at b2
          simp only [List.map_cons, List.map_nil]
          split
          · rename_i z
            rw [beq_iff_eq.mp z]
            split
            · rename_i i e; exact SE.append (slot_o h e) (ih _) (base_ok b3) b4 b2.1
            · exact SE.no
          · split
            · rename_i z
              rw [beq_iff_eq.mp z]
              split
              · rename_i i e; exact SE.extend h.hK (slot_o h e) (ih _) (base_ok b3) b4 b2.1
              · exact SE.no
            · split
              · rename_i z; rw [beq_iff_eq.mp z]; exact SE.join h.hK (ih o) (ih _) (base_ok b3) b4 b2.1
              · split
                · rename_i z; rw [beq_iff_eq.mp z]; exact SE.index h.hK (ih o) (ih _) (base_ok b3) b4 b2.1
                · split
                  · rename_i z; rw [beq_iff_eq.mp z]; exact SE.count h.hK (by have := h.hu; omega) (ih o) (ih _) (base_ok b3) b4 b2.1
                  · exact sound_own (args := [e]) (kws := []) h ih
  · exact sound_own h ih
theorem free_ok2 (h : CxOk X g W c) {x : Str} (e : freeB c x = true) : Gl X x ∧ X.mg x = none := by
  unfold freeB at e
  simp only [Bool.and_eq_true] at e
  exact ⟨glob_of h e.1.1, h.tb.fr _ e.1.2⟩
theorem sound_iter (h : CxOk X g W c) {tg e : Expr} {f : Expr → ME} (ih : ∀ e, SE X g W e (f e)) : SI X g W tg e (trI c f tg e) := by
  unfold trI
  split
  · split
    · rename_i z
      split
      · rename_i q
        simp only [Bool.and_eq_true] at q
        rw [beq_iff_eq.mp z] at q ⊢
        obtain ⟨q1, q2⟩ := free_ok2 h q.1
        exact SI.range1 q1 q2 (ih _) q.2
      · exact SI.no
    · split
      · rename_i z
        split
        · rename_i q
          simp only [Bool.and_eq_true] at q
          rw [beq_iff_eq.mp z] at q ⊢
          obtain ⟨q1, q2⟩ := free_ok2 h q.1.1
          cases tg <;> simp only [isTupE] at q <;> first | exact SI.enum h.hK q1 q2 (ih _) q.1.2 | exact absurd q.2 (by decide)
        · exact SI.no
      · exact SI.seq h.hK (ih _)
  · split
    · rename_i z
      split
      · rename_i q
        simp only [Bool.and_eq_true] at q
        rw [beq_iff_eq.mp z] at q ⊢
        obtain ⟨q1, q2⟩ := free_ok2 h q.1.1
        exact SI.range2 q1 q2 (ih _) (ih _) q.1.2 q.2
      · exact SI.no
    · exact SI.seq h.hK (ih _)
  · exact SI.seq h.hK (ih _)
theorem names_at (h : CxOk X g W c) : ∀ {es : List Expr} {is : List Nat}, namesIx c es = some is → namesAt X es is
  | [], is, e => by simp only [namesIx, Option.some.injEq] at e; subst e; unfold namesAt; rfl
  | e :: es, is, q => by
    cases e <;> simp only [namesIx] at q <;> try (cases q)
    rename_i x p
    cases e1 : storeOf c x with
    | none => rw [e1] at q; cases q
    | some i =>
      rw [e1] at q
      cases e2 : namesIx c es with
      | none => rw [e2] at q; cases q
      | some js => rw [e2] at q; cases q; unfold namesAt; exact ⟨_, _, rfl, store_nm h e1, names_at h e2⟩
theorem sound_tg (h : CxOk X g W c) {tg : Expr} {k : Tg} (e : trG c tg = some k) : SG X g tg k := by
  cases tg <;> simp only [trG] at e <;> try (cases e)
  · rename_i x p
    cases e1 : storeOf c x with
    | none => rw [e1] at e; cases e
    | some i => rw [e1] at e; cases e; exact SG.nm h.nd (store_nm h e1)
  · rename_i es kk p
    cases e1 : namesIx c es with
    | none => rw [e1] at e; cases e
    | some is => rw [e1] at e; cases e; exact SG.tp h.hK h.hc h.nd (names_at h e1)
end
end RF
end
section
/-! RTm: the whole of expressions and tests. -/
namespace RF
open PySem L2
section
variable {X : Cx} {g : Bg} {W : WX} {c : Tc} {tr : Tc → Expr → ME} {tt : Tc → Expr → MT}
abbrev IhE (tr : Tc → Expr → ME) : Prop := ∀ {X : Cx} {g : Bg} {W : WX} {c : Tc}, CxOk X g W c → ∀ e, SE X g W e (tr c e)
abbrev IhT (tt : Tc → Expr → MT) : Prop := ∀ {X : Cx} {g : Bg} {W : WX} {c : Tc}, CxOk X g W c → ∀ e, ST X g W e (tt c e)
theorem sound_ifs {f : Expr → MT} (ih : ∀ e, ST X g W e (f e)) {es : List Expr} : STs X g W es (trIfs f es) := by
  unfold trIfs
  split
  · exact STs.nil
  · exact STs.one (ih _)
  · exact STs.no
theorem subL_ok {xs ys : List Nat} (h : subL xs ys = true) : ∀ j ∈ xs, j ∈ ys := fun j hj => by
  unfold subL at h
  have := List.all_eq_true.mp h j hj
  simpa using this
theorem clause_ok (h : CxOk X g W c) (ie : IhE tr) (it : IhT tt) {scope : Scope} {vs : List Nat} {t i : Expr} {fs : List Expr} {c0 : Cl} (e : trClause (blkTc c scope) (tr (blkTc c scope)) (tt (blkTc c scope)) vs ⟨t, i, fs, 0⟩ = some c0) :
    ClOk X scope g t fs c0 ∧ ClIn X scope g t i c0 ∧ c0.vs = vs := by
  unfold trClause at e
  simp only at e
  cases q : trG (blkTc c scope) t with
  | none => rw [q] at e; cases e
  | some k =>
    rw [q] at e
    simp only at e
    split at e
    · rename_i z
      simp only [Bool.and_eq_true] at z
      cases e
      refine ⟨⟨fun s H C cl fp => sound_tg (h.blk s H scope C cl fp) q, fun s H C cl fp => sound_ifs (it (h.blk s H scope C cl fp)), subL_ok z.2⟩, ⟨fun s H C cl fp => sound_iter (h.blk s H scope C cl fp) (ie (h.blk s H scope C cl fp)), z.1.2⟩, rfl⟩
    · cases e
theorem blk_ok (h : CxOk X g W c) {scope : Scope} (e : blkC c.N c.sc scope (ownOf c.N scope) = true) : BlkOk X.N X.env.scope scope (ownOf c.N scope) := by
  rw [h.hN, h.sc]; exact blkOk_by e
theorem ClOk.it {scope : Scope} {t : Expr} {fs : List Expr} {c0 : Cl} (o : ClOk X scope g t fs c0) (i : MI) : ClOk X scope g t fs { c0 with it := i } := ⟨o.hg, o.ht, o.hk⟩
/-- the clauses of a comprehension as they are translated -/
inductive CompR (X : Cx) (g : Bg) (W : WX) (c : Tc) (tr : Tc → Expr → ME) (new : D) (em : (Expr → ME) → D → Env → R D) (scope : Scope) : List Comprehension → ME → Prop
  | no {gs : List Comprehension} : CompR X g W c tr new em scope gs eNo
  | one {t0 i0 : Expr} {f0 : List Expr} {c0 : Cl} (ok : BlkOk X.N X.env.scope scope (ownOf c.N scope)) (hv : c0.vs = (ownOf c.N scope).map (·.2)) (hi : SI X g W t0 i0 c0.it) (hs : notSetE i0 = true) (o0 : ClOk X scope g t0 f0 c0) : CompR X g W c tr new em scope [⟨t0, i0, f0, 0⟩] (eComp new (em (tr (blkTc c scope))) c0 [])
  | two {t0 i0 t1 i1 : Expr} {f0 f1 : List Expr} {c0 c1 : Cl} (ok : BlkOk X.N X.env.scope scope (ownOf c.N scope)) (hv : c0.vs = (ownOf c.N scope).map (·.2)) (h01 : ∀ j ∈ c1.vs, j ∈ c0.vs) (hi : SI X g W t0 i0 c0.it) (hs : notSetE i0 = true) (o0 : ClOk X scope g t0 f0 c0) (o1 : ClOk X scope g t1 f1 c1) (n1 : ClIn X scope g t1 i1 c1) :
    CompR X g W c tr new em scope [⟨t0, i0, f0, 0⟩, ⟨t1, i1, f1, 0⟩] (eComp new (em (tr (blkTc c scope))) c0 [c1])
  | three {t0 i0 t1 i1 t2 i2 : Expr} {f0 f1 f2 : List Expr} {c0 c1 c2 : Cl} (ok : BlkOk X.N X.env.scope scope (ownOf c.N scope)) (hv : c0.vs = (ownOf c.N scope).map (·.2)) (h01 : ∀ j ∈ c1.vs, j ∈ c0.vs) (h12 : ∀ j ∈ c2.vs, j ∈ c1.vs) (hi : SI X g W t0 i0 c0.it) (hs : notSetE i0 = true) (o0 : ClOk X scope g t0 f0 c0) (o1 : ClOk X scope g t1 f1 c1) (n1 : ClIn X scope g t1 i1 c1) (o2 : ClOk X scope g t2 f2 c2) (n2 : ClIn X scope g t2 i2 c2) :
    CompR X g W c tr new em scope [⟨t0, i0, f0, 0⟩, ⟨t1, i1, f1, 0⟩, ⟨t2, i2, f2, 0⟩] (eComp new (em (tr (blkTc c scope))) c0 [c1, c2])
theorem sound_comp (h : CxOk X g W c) (ie : IhE tr) (it : IhT tt) {new : D} {em : (Expr → ME) → D → Env → R D} {scope : Scope} {gens : List Comprehension} : CompR X g W c tr new em scope gens (trComp c tr tt new em scope gens) := by
  unfold trComp
  simp only
  split
  · rename_i b
    have ok := blk_ok h b
    split
    · split
      · rename_i c0 e0
        obtain ⟨o0, n0, v0⟩ := clause_ok h ie it e0
        exact .one ok v0 (sound_iter h (ie h)) n0.hs (o0.it _)
      · exact .no
    · split
      · split
        · rename_i c0 c1 e0 e1
          obtain ⟨o0, n0, v0⟩ := clause_ok h ie it e0
          obtain ⟨o1, n1, v1⟩ := clause_ok h ie it e1
          split
          · rename_i z
            exact .two ok v0 (subL_ok z) (sound_iter h (ie h)) n0.hs (o0.it _) o1 n1
          · exact .no
        · exact .no
      · exact .no
    · split
      · split
        · rename_i c0 c1 c2 e0 e1 e2
          obtain ⟨o0, n0, v0⟩ := clause_ok h ie it e0
          obtain ⟨o1, n1, v1⟩ := clause_ok h ie it e1
          obtain ⟨o2, n2, v2⟩ := clause_ok h ie it e2
          split
          · rename_i z
            simp only [Bool.and_eq_true] at z
            exact .three ok v0 (subL_ok z.1) (subL_ok z.2) (sound_iter h (ie h)) n0.hs (o0.it _) o1 n1 o2 n2
          · exact .no
        · exact .no
      · exact .no
    · exact .no
  · exact .no
theorem PCp.no {e : Expr} {scope : Scope} {a : Sem Value} {i : Expr} : PCp X g W e scope a i eNo := ⟨fun {pins s σ H Q use Qf pos'} I q hRR => by obtain ⟨T, ρ, F, R, q⟩ := q; exact q.elim⟩
theorem comp_lst2 (h : CxOk X g W c) (ie : IhE tr) {elt : Expr} {scope : Scope} {a b : Comprehension} {pos : Pos} {m : ME} (r : CompR X g W c tr (.lst []) (fun tr => emLp (tr elt)) scope [a, b] m) : PCp X g W (.ListComp elt [a, b] scope pos) scope (newList []) a.iter m := by
  cases r with
  | no => exact PCp.no
  | two ok hv h01 hi hs o0 o1 n1 => exact cp_lc2 h.hc h.nd ok hv h01 hi hs o0 o1 n1 fun s H C cl fp => ie (h.blk s H scope C cl fp) elt
theorem comp_set2 (h : CxOk X g W c) (ie : IhE tr) {elt : Expr} {scope : Scope} {a b : Comprehension} {pos : Pos} {m : ME} (r : CompR X g W c tr (.set []) (fun tr => emSp (tr elt)) scope [a, b] m) : PCp X g W (.SetComp elt [a, b] scope pos) scope (newSet (.type "set")) a.iter m := by
  cases r with
  | no => exact PCp.no
  | two ok hv h01 hi hs o0 o1 n1 => exact cp_sc2 h.hG h.hc h.nd ok hv h01 hi hs o0 o1 n1 fun s H C cl fp => ie (h.blk s H scope C cl fp) elt
theorem comp_dic1 (h : CxOk X g W c) (ie : IhE tr) {kx vx : Expr} {scope : Scope} {a : Comprehension} {pos : Pos} {m : ME} (r : CompR X g W c tr (.dic [] []) (fun tr => emDp (tr kx) (tr vx)) scope [a] m) : PCp X g W (.DictComp kx vx [a] scope pos) scope newDict a.iter m := by
  cases r with
  | no => exact PCp.no
  | one ok hv hi hs o0 => exact cp_dc1 h.hc h.nd ok hv hi hs o0 (fun s H C cl fp => ie (h.blk s H scope C cl fp) kx) fun s H C cl fp => ie (h.blk s H scope C cl fp) vx
theorem comp_dic3 (h : CxOk X g W c) (ie : IhE tr) {kx vx : Expr} {scope : Scope} {a b d : Comprehension} {pos : Pos} {m : ME} (r : CompR X g W c tr (.dic [] []) (fun tr => emDp (tr kx) (tr vx)) scope [a, b, d] m) : PCp X g W (.DictComp kx vx [a, b, d] scope pos) scope newDict a.iter m := by
  cases r with
  | no => exact PCp.no
  | three ok hv h01 h12 hi hs o0 o1 n1 o2 n2 => exact cp_dc3 h.hc h.nd ok hv h01 h12 hi hs o0 o1 n1 o2 n2 (fun s H C cl fp => ie (h.blk s H scope C cl fp) kx) fun s H C cl fp => ie (h.blk s H scope C cl fp) vx
theorem compR_async {new : D} {em : (Expr → ME) → D → Env → R D} {scope : Scope} {a : Comprehension} {gs : List Comprehension} {m : ME} (r : CompR X g W c tr new em scope (a :: gs) m) : m = eNo ∨ ∃ t i f, a = ⟨t, i, f, 0⟩ := by
  cases r with
  | no => exact .inl rfl
  | one => exact .inr ⟨_, _, _, rfl⟩
  | two => exact .inr ⟨_, _, _, rfl⟩
  | three => exact .inr ⟨_, _, _, rfl⟩
theorem sound_lc (h : CxOk X g W c) (ie : IhE tr) (it : IhT tt) {elt : Expr} {scope : Scope} {gens : List Comprehension} {pos : Pos} : SE X g W (.ListComp elt gens scope pos) (trLc1 c tr tt elt scope gens) := by
  unfold trLc1
  simp only
  split
  · split
    · rename_i b
      have ok := blk_ok h b
      split
      · rename_i c0 e0
        obtain ⟨o0, n0, v0⟩ := clause_ok h ie it e0
        exact SE.lc h.hc h.nd (sound_iter h (ie h)) ok (by rw [← v0]; exact o0.hk) o0.hg o0.ht (fun s H C cl fp => ie (h.blk s H scope C cl fp) elt) n0.hs
      · exact SE.no
    · exact SE.no
  · rename_i a b
    have r := sound_comp (c := c) (gens := [a, b]) (scope := scope) (new := .lst []) (em := fun tr => emLp (tr elt)) h ie it
    rcases compR_async r with e | ⟨t, i, f, rfl⟩
    · rw [e]; exact SE.no
    · exact SE.lc2 (comp_lst2 h ie r)
  · exact SE.no
theorem sound_sc (h : CxOk X g W c) (ie : IhE tr) (it : IhT tt) {elt : Expr} {scope : Scope} {a b : Comprehension} {pos : Pos} : SE X g W (.SetComp elt [a, b] scope pos) (trComp c tr tt (.set []) (fun tr => emSp (tr elt)) scope [a, b]) := by
  have r := sound_comp (c := c) (gens := [a, b]) (scope := scope) (new := .set []) (em := fun tr => emSp (tr elt)) h ie it
  rcases compR_async r with e | ⟨t, i, f, rfl⟩
  · rw [e]; exact SE.no
  · exact SE.sc2 (comp_set2 h ie r)
theorem sound_dc1 (h : CxOk X g W c) (ie : IhE tr) (it : IhT tt) {kx vx : Expr} {scope : Scope} {a : Comprehension} {pos : Pos} : SE X g W (.DictComp kx vx [a] scope pos) (trComp c tr tt (.dic [] []) (fun tr => emDp (tr kx) (tr vx)) scope [a]) := by
  have r := sound_comp (c := c) (gens := [a]) (scope := scope) (new := .dic [] []) (em := fun tr => emDp (tr kx) (tr vx)) h ie it
  rcases compR_async r with e | ⟨t, i, f, rfl⟩
  · rw [e]; exact SE.no
  · exact SE.dc (comp_dic1 h ie r)
theorem sound_dc3 (h : CxOk X g W c) (ie : IhE tr) (it : IhT tt) {kx vx : Expr} {scope : Scope} {a b d : Comprehension} {pos : Pos} : SE X g W (.DictComp kx vx [a, b, d] scope pos) (trComp c tr tt (.dic [] []) (fun tr => emDp (tr kx) (tr vx)) scope [a, b, d]) := by
  have r := sound_comp (c := c) (gens := [a, b, d]) (scope := scope) (new := .dic [] []) (em := fun tr => emDp (tr kx) (tr vx)) h ie it
  rcases compR_async r with e | ⟨t, i, f, rfl⟩
  · rw [e]; exact SE.no
  · exact SE.dc (comp_dic3 h ie r)
theorem sound_and {f : Expr → MT} (ih : ∀ e, ST X g W e (f e)) {pos : Pos} : ∀ {es : List Expr}, SW X g W (.BoolOp .And es pos) (trAnd (es.map f))
  | [] => SW.no
  | [a] => SW.and1 (ih a)
  | a :: b :: es => SW.and (ih a) (sound_and ih)
theorem sound_or {f : Expr → MT} (ih : ∀ e, ST X g W e (f e)) {pos : Pos} : ∀ {es : List Expr}, SW X g W (.BoolOp .Or es pos) (trOr (es.map f))
  | [] => SW.no
  | [a] => SW.or1 (ih a)
  | a :: b :: es => SW.or (ih a) (sound_or ih)
theorem sound_vand {f : Expr → ME} (ih : ∀ e, SE X g W e (f e)) {pos : Pos} : ∀ {es : List Expr}, SE X g W (.BoolOp .And es pos) (vAnd (es.map f))
  | [] => SE.no
  | [a] => SE.one (ih a)
  | a :: b :: es => SE.and (ih a) (sound_vand ih)
theorem sound_vor {f : Expr → ME} (ih : ∀ e, SE X g W e (f e)) {pos : Pos} : ∀ {es : List Expr}, SE X g W (.BoolOp .Or es pos) (vOr (es.map f))
  | [] => SE.no
  | [a] => SE.one (ih a)
  | a :: b :: es => SE.or (ih a) (sound_vor ih)
theorem SA.ofK {f : Expr → ME} {es : List Expr} (h : ∀ e, SE X g W e (f e)) (s : es.all notStar = true) : SA X g W es ((es.map f).map eKeep) := by
  rw [List.map_map]
  exact SA.of (f := eKeep ∘ f) (fun e _ => SE.keep (h e)) s
end
theorem sound_t1 {n : Nat} (ie : IhE (trE n)) (it : IhT (trT n)) : IhT (trT (n + 1)) := by
  intro X g W c h e
  unfold trT
  split
  · exact ST.not (it h _)
  · exact SW.pt (sound_and (it h))
  · exact SW.pt (sound_or (it h))
  · split
    · rename_i hs
      split
      · rename_i f e1
        obtain ⟨r, o1, o2⟩ := cmp_ok h e1
        exact ST.cmp o1 o2 (cmp_bl e1) (ie h _) (ie h _) hs
      · exact ST.no
    · exact ST.no
  · split
    · rename_i hs
      split
      · rename_i f f' e1 e2
        obtain ⟨r, o1, o2⟩ := cmp_ok h e1
        obtain ⟨r', o1', o2'⟩ := cmp_ok h e2
        exact ST.chain o1 o1' o2 o2' (ie h _) (ie h _) (ie h _) hs
      · exact ST.no
    · exact ST.no
  · split
    · rename_i hp
      exact ST.of h.hK (ie h _) hp
    · exact ST.no
theorem sound_e1 {n : Nat} (ie : IhE (trE n)) (it : IhT (trT n)) : IhE (trE (n + 1)) := by
  intro X g W c h e
  unfold trE
  split
  · exact sound_const
  · exact sound_name h
  · split
    · rename_i f e1
      obtain ⟨r, o1, o2⟩ := bin_ok h e1
      exact SE.bin o1 o2 (ie h _) (ie h _)
    · exact SE.no
  · exact SE.un un_neg ok_neg (ie h _)
  · exact SE.not (ie h _)
  · exact sound_vand (ie h)
  · exact sound_vor (ie h)
  · split
    · rename_i hs
      split
      · rename_i f e1
        obtain ⟨r, o1, o2⟩ := cmp_ok h e1
        exact SE.cmp o1 o2 (ie h _) (ie h _) hs
      · exact SE.no
    · exact SE.no
  · split
    · rename_i hs
      split
      · rename_i f f' e1 e2
        obtain ⟨r, o1, o2⟩ := cmp_ok h e1
        obtain ⟨r', o1', o2'⟩ := cmp_ok h e2
        exact SE.chain o1 o1' o2 o2' (ie h _) (ie h _) (ie h _) hs
      · exact SE.no
    · exact SE.no
  · exact SE.ifExp (it h _) (ie h _) (ie h _)
  · split
    · rename_i hs; exact SE.tup (SA.ofK (ie h) hs)
    · exact SE.no
  · split
    · rename_i hs; exact SE.lst (SA.ofK (ie h) hs)
    · exact SE.no
  · exact SE.dic0
  · exact SE.dic1 (ie h _) (ie h _)
  · exact SE.sl h.hK (ie h _) SP2.none SP2.none
  · exact SE.sl h.hK (ie h _) (SP2.some (ie h _)) SP2.none
  · exact SE.sl h.hK (ie h _) SP2.none (SP2.some (ie h _))
  · exact SE.sl h.hK (ie h _) (SP2.some (ie h _)) (SP2.some (ie h _))
  · split
    · rename_i st _ _ hm
      unfold isM1 at hm
      split at hm
      · exact SE.rev h.hK (ie h _)
      · cases hm
    · exact SE.no
  · split
    · rename_i hp; exact SE.ix h.hK (by have := h.hu; omega) (ie h _) (ie h _) hp
    · exact SE.no
  · split
    · rename_i hp; exact SE.fld h.hK (by rw [← h.hK, ← h.hG]; exact h.tb.fl) (ie h _) (base_ok hp)
    · exact SE.no
  · exact sound_call h (ie h)
  · exact sound_attr h (ie h)
  · split
    · exact SE.fst (SJ.of (ie h) _)
    · exact SE.no
  · split
    · split
      · rename_i hk; rw [beq_iff_eq.mp hk]; exact SE.fmt (ie h _)
      · exact SE.no
    · exact SE.no
  · exact sound_lc h ie it
  · split
    · exact sound_sc h ie it
    · exact SE.no
  · split
    · exact sound_dc1 h ie it
    · exact sound_dc3 h ie it
    · exact SE.no
  · exact SE.no
theorem sound_et : ∀ n : Nat, IhE (trE n) ∧ IhT (trT n)
  | 0 => ⟨fun {X g W c} h e => by unfold trE; exact SE.no, fun {X g W c} h e => by unfold trT; exact ST.no⟩
  | n + 1 => ⟨sound_e1 (sound_et n).1 (sound_et n).2, sound_t1 (sound_et n).1 (sound_et n).2⟩
end RF
end
section
/-! RTx: statements; a def as a whole. -/
namespace RF
open PySem L2

/-- whether a comprehension is given to a name at once -/
def compScope : Expr → Option (Scope × Nat)
  | .ListComp _ _ s p => some (s, p.line)
  | .SetComp _ _ s p => some (s, p.line)
  | .DictComp _ _ _ s p => some (s, p.line)
  | _ => none
def swapB (c : Tc) (e : Expr) (x : Str) (l : Nat) : Bool := match compScope e with
  | some p => (c.sc.names.lookup x == some .local) && (l == p.2) && !(p.1.names.any fun (n, k) => n == x && (k == .local || k == .cell))
  | none => false
def isSetC : Expr → Bool
  | .SetComp .. => true
  | _ => false
def starB : Expr → Bool
  | .Starred .. => true
  | _ => false
def nmLine (c : Tc) (line : Nat) : Expr → Option Str
  | .Name id pos => if c.sc.names.lookup id == some .local && pos.line == line then some id else none
  | _ => none
/-- a, b = x, y: stored from the right (some some), taken apart (some none) -/
def swapT (c : Tc) (ts vs : List Expr) : Option (Option (List Str)) :=
  if !(ts.length == 2 || ts.length == 3) || vs.length != ts.length then some none
  else if vs.any starB then some none
  else
    let names := ts.filterMap (nmLine c ((ts.head?.map (·.pos.line)).getD 0))
    if names.length != ts.length || names.eraseDups.length != names.length then some none
    else if vs.all (foldedForSure 8) then some none
    else if vs.all (constantsAlone 8) then none
    else some (some names)
def trP (tr : Expr → ME) (e : Expr) : ME := match e with
  | .Name .. => eKeep (tr e)
  | _ => tr e
def bigN : Nat := 1000000
def nodupB (is : List Nat) : Bool := decide is.Nodup
def trPar (c : Tc) (tr : Expr → ME) (ts vs : List Expr) : MS := match namesIx c ts with
  | some is => if nodupB is && vs.all notStar && (vs.length == ts.length) && decide (vs.length ≤ cap) then match swapT c ts vs with
      | some none => sParN is (vs.map (trP tr))
      | some (some xs) => (match ts, vs with
        | [.Name x _, .Name y _], [_, _] => if xs == [x, y] && c.sc.names.lookup x == some .local && c.sc.names.lookup y == some .local then sParN is (vs.map (trP tr)) else sStop
        | [.Name x _, .Name y _, .Name z _], [_, _, _] => if xs == [x, y, z] && c.sc.names.lookup x == some .local && c.sc.names.lookup y == some .local && c.sc.names.lookup z == some .local then sParN is (vs.map (trP tr)) else sStop
        | _, _ => sStop)
      | none => sStop
    else sStop
  | none => sStop
def starIx (c : Tc) : List Expr → Option (List Nat)
  | [.Name x _, .Starred (.Name y _) _] => match storeOf c x, storeOf c y with
    | some i, some j => if i = j then none else some [i, j]
    | _, _ => none
  | _ => none
def trAssign (c : Tc) (tr : Expr → ME) (tg e : Expr) : MS := match tg with
  | .Name x p' => match storeOf c x with
    | some i => if swapB c e x p'.line && isSetC e then sStop else sSet i (tr e)
    | none => sStop
  | .Tuple ts _ _ => match e with
    | .Tuple vs _ _ => trPar c tr ts vs
    | _ => match trG c tg with
      | some k => sUnp k (tr e)
      | none => match starIx c ts with
        | some is => sStar is (tr e)
        | none => sStop
  | .Subscript o ie _ => match (nameOf o).bind (slotOf c) with
    | some i => if plainIx ie then sPutIx i (tr ie) (tr e) else sStop
    | none => sStop
  | .Attribute o f _ => match (nameOf o).bind (slotOf c) with
    | some i => sPutF c.t.fl i f (tr e)
    | none => sStop
  | _ => sStop
mutual
def trS : Nat → Tc → Stmt → MS
  | 0, _, _ => sStop
  | n + 1, c, st => match st with
    | .Expr e _ => if (compScope e).isNone then sExp (trE n c e) else sStop
    | .Return none _ => sRet (eC .non)
    | .Return (some e) _ => sRet (trE n c e)
    | .If q a b _ => sIf (trT n c q) (trSs n c a) (trSs n c b)
    | .For tg it body [] _ => if notSetE it then match trG c tg with
        | some k => sFor k (trI c (trE n c) tg it) (trSs n c body)
        | none => sStop
      else sStop
    | .While q body [] _ => sWhile bigN (trT n c q) (trSs n c body)
    | .Pass _ => sNil
    | .Break _ => sBrk
    | .Continue _ => sCnt
    | .Assign [tg] e _ => trAssign c (trE n c) tg e
    | _ => sStop
def trSs : Nat → Tc → List Stmt → MS
  | 0, _, _ => sStop
  | n + 1, c, sts => match sts with
    | [] => sNil
    | [s] => trS n c s
    | s :: r => sSeq (trS n c s) (trSs n c r)
end
theorem sw_none {e : Expr} {t : Option Expr} {l : Nat} {env : PySem.Env} (h : compScope e = none) : swapsWith e t l env = pure false := by
  cases e <;> first | rfl | (simp [compScope] at h)
section
variable {X : Cx} {g : Bg} {W : WX} {c : Tc}
theorem blockK (hk : X.env.scope.kind = .function) : X.env.blockKind = .function := by unfold Env.blockKind; rw [hk]; rfl
theorem sw_name (h : CxOk X g W c) (hk : X.env.scope.kind = .function) {e : Expr} {x : Str} {p : Pos} {l : Nat} : swapsWith e (some (.Name x p)) l X.env = pure (swapB c e x p.line) := by
  have hb := blockK hk
  have hl : X.env.kindOf x = c.sc.names.lookup x := by unfold Env.kindOf; rw [h.sc]
  cases e <;> first
    | rfl
    | (simp only [swapsWith, swapB, compScope, hb, hl, Expr.pos]
       simp)
theorem swap_ok (h : CxOk X g W c) (hk : X.env.scope.kind = .function) {ts vs : List Expr} {k k2 : Nat} {p p2 : Pos} {r : Option (List Str)} (e : swapT c ts vs = some r) : swappedStores [.Tuple ts k p] (.Tuple vs k2 p2) X.env = pure r := by
  have hb := blockK hk
  have hl : ∀ x, X.env.kindOf x = c.sc.names.lookup x := fun x => by unfold Env.kindOf; rw [h.sc]
  unfold swapT at e
  unfold swappedStores
  simp only [hb, hl]
  generalize hnm : ts.filterMap (nmLine c ((ts.head?.map (·.pos.line)).getD 0)) = names at e
  show (if (!(ts.length == 2 || ts.length == 3) || vs.length != ts.length || ScopeKind.function != ScopeKind.function) = true then pure none else if vs.any starB = true then pure none
    else if ((ts.filterMap (nmLine c ((ts.head?.map (·.pos.line)).getD 0))).length != ts.length || (ts.filterMap (nmLine c ((ts.head?.map (·.pos.line)).getD 0))).eraseDups.length != (ts.filterMap (nmLine c ((ts.head?.map (·.pos.line)).getD 0))).length) = true then pure none
    else if vs.all (foldedForSure 8) = true then pure none else if vs.all (constantsAlone 8) = true then (do
      unsupported "assign.tuple-of-constant-expressions:order-of-the-stores"
      pure (some (ts.filterMap (nmLine c ((ts.head?.map (·.pos.line)).getD 0))))) else pure (some (ts.filterMap (nmLine c ((ts.head?.map (·.pos.line)).getD 0))))) = (pure r : Sem (Option (List Str)))
  rw [hnm]
  simp only at e
  split at e
  · rename_i z
    cases e
    rw [if_pos (by simp at z ⊢; omega)]
  · rename_i z
    rw [if_neg (by simp at z ⊢; omega)]
    split at e
    · rename_i z2
      cases e
      simp only [z2]; rfl
    · rename_i z2
      simp only [z2, Bool.false_eq_true, if_false]
      split at e
      · rename_i z3
        cases e
        rw [if_pos z3]
      · rename_i z3
        rw [if_neg z3]
        split at e
        · rename_i z4
          cases e
          rw [if_pos z4]
        · rename_i z4
          rw [if_neg z4]
          split at e
          · cases e
          · rename_i z5
            cases e
            rw [if_neg z5]
theorem trP_ok {tr : Expr → ME} (ih : ∀ e, SE X g W e (tr e)) (e : Expr) : SE X g W e (trP tr e) := by
  unfold trP
  split
  · exact SE.keep (ih _)
  · exact ih _
theorem setR_comm {σ : St} {v : Option V} : ∀ {is : List Nat} {vs : List V} {i : Nat}, i ∉ is → setR (σ.set i v) is vs = (setR σ is vs).set i v
  | [], _, _, _ => by simp [setR]
  | j :: is, [], _, _ => by simp [setR]
  | j :: is, w :: vs, i, h => by
    simp only [List.mem_cons, not_or] at h
    simp only [setR, setR_comm h.2]
    rw [List.set_comm _ _ h.1]
theorem names_run {Q : St → Hp → Prop} {H : Hp} : ∀ {is : List Nat} {vs : List V} {σ : St}, is.Nodup → vs.length = is.length → Q (setR σ is vs) H → gNames is vs σ H Q
  | [], [], σ, _, _, q => ⟨rfl, q⟩
  | i :: is, v :: vs, σ, nd, hl, q => by
    have nd' := List.nodup_cons.mp nd
    refine ⟨v, vs, rfl, ?_⟩
    show gNames is vs (σ.set i (some v)) H Q
    refine names_run nd'.2 (by simpa using hl) ?_
    rw [setR_comm nd'.1]
    exact q
  | [], _ :: _, _, _, hl, _ => by simp at hl
  | _ :: _, [], _, _, hl, _ => by simp at hl
theorem SS.parU {ts vs : List Expr} {k k2 : Nat} {p p2 pos : Pos} {is : List Nat} {ms : List ME} (hK : X.K = g.K) (ha : SA X g W vs ms) (ht : SG X g (.Tuple ts k p) (.tp is)) (hn : is.Nodup) (hl : ms.length = is.length) (hz : ms.length ≤ cap)
    (hw : swappedStores [.Tuple ts k p] (.Tuple vs k2 p2) X.env = pure none) : SS X g W (.Assign [.Tuple ts k p] (.Tuple vs k2 p2) pos) (sParN is ms) := by
  refine PSimp (ps_asg (pe_tup ha) ht rfl hw rfl) fun E σ H q => ?_
  obtain ⟨T, ρ, F, R, q⟩ := q
  refine ⟨T, ρ, F, R, ?_⟩
  simp only [sParN] at q
  cases e1 : evU ms ρ with
  | no => simp only [e1, RF.R.bind, Pst] at q
  | ex x ρ1 => simp only [e1, RF.R.bind] at q; exact Pst.xw q
  | ok os ρ1 =>
    simp only [e1, RF.R.bind] at q
    intro ws H1 F1 s1 ⟨R1, z⟩
    cases e2 : noSlot os with
    | false => simp only [e2, Pst] at q
    | true =>
      simp only [e2] at q
      cases e3 : putSs is os ρ1 with
      | none => simp only [e3, lift, Pst] at q
      | some ρ2 =>
        simp only [e3, lift] at q
        have hlen : ws.length = is.length := by rw [OVs_len z, evU_len e1, hl]
        refine ⟨by rw [hlen, ← hl]; exact Nat.le_trans hz cap_line, fun p hp => ?_⟩
        obtain ⟨F2, s2, R2⟩ := putSs_ok e2 (R1.laid (o := .tup ws) hp) z e3
        exact ⟨p, ws, rfl, .inl (.inl upd_same), hlen, names_run hn hlen (q _ _ F2 (s1.trans s2) R2)⟩
theorem SS.star {x y : Str} {px py ps p pos : Pos} {k i j : Nat} {e : Expr} {m : ME} (hK : X.K = g.K) (hc : X.calm = true) (hN : X.N.Nodup) (hx : NmOk X x i) (hy : NmOk X y j) (hij : i ≠ j) (h : SE X g W e m)
    (hs : swapsWithSole [.Tuple [.Name x px, .Starred (.Name y py) ps] k p] e pos.line X.env = pure false) (hw : swappedStores [.Tuple [.Name x px, .Starred (.Name y py) ps] k p] e X.env = pure none) :
    SS X g W (.Assign [.Tuple [.Name x px, .Starred (.Name y py) ps] k p] e pos) (sStar [i, j] m) := by
  have pg : PGs X [.Name x px, .Starred (.Name y py) ps] (gNames [i, j]) := pgs_cons (pg_name hN hx.1 hx.2.1 hx.2.2) (pgs_starred (names_pg hN ⟨j, [], rfl, hy, rfl⟩)) rfl
  refine PSimp (ps_asg h (pg_star hc pg rfl) hs hw rfl) fun E σ H q => ?_
  obtain ⟨T, ρ, F, R, q⟩ := q
  refine ⟨T, ρ, F, R, ?_⟩
  simp only [sStar] at q
  cases e1 : m ρ with
  | no => simp only [e1, RF.R.bind, Pst] at q
  | ex x ρ1 => simp only [e1, RF.R.bind] at q; exact Pst.xw q
  | ok o ρ1 =>
    simp only [e1, RF.R.bind] at q
    intro v H1 F1 s1 r1
    cases e2 : getO ρ1 o with
    | none => simp only [e2, Option.bind_none, lift, Pst] at q
    | some d =>
      simp only [e2, Option.bind_some] at q
      obtain ⟨d0, ds, rfl⟩ : ∃ d0 ds, d = .tup (d0 :: ds) := by
        unfold splitT at q
        split at q
        · exact ⟨_, _, rfl⟩
        · exact q.elim
      simp only [splitT, lift] at q
      cases e3 : putSs [i, j] [.val d0, .fresh (.lst ds)] ρ1 with
      | none => simp only [e3, Pst] at q
      | some ρ2 =>
        simp only [e3] at q
        have tp := r1.top e2
        simp only [Top, Rep] at tp
        obtain ⟨a, vs, rfl, sq, z, rs⟩ := tp
        obtain ⟨v0, vr, rfl, rd, rr⟩ := rs
        refine ⟨a, v0, vr, rfl, by rw [hK]; exact r1.rl.fz.sub.sqT sq.t, fun l hl => ?_⟩
        have hzl : vr.length ≤ sizeLine := by rw [List.length_cons] at z; omega
        have R2 : Rl g (tmps [.val d0, .fresh (.lst ds)] [v0, .ref l] ++ T) ρ1 σ (upd H1 l (.lst vr)) F1 := r1.rl.laidT hl ⟨vr, upd_same, hzl, rr⟩
        obtain ⟨F2, s2, R3⟩ := putSs_ok rfl R2 ⟨v0, _, rfl, rd, .ref l, [], rfl, ⟨l, rfl⟩, rfl⟩ e3
        exact names_run (by simp [hij]) rfl (q _ _ F2 (s1.trans s2) R3)
theorem sound_par (h : CxOk X g W c) (hk : X.env.scope.kind = .function) {tr : Expr → ME} (ih : ∀ e, SE X g W e (tr e)) {ts vs : List Expr} {k k2 : Nat} {p p2 pos : Pos} : SS X g W (.Assign [.Tuple ts k p] (.Tuple vs k2 p2) pos) (trPar c tr ts vs) := by
  unfold trPar
  split
  · rename_i is e0
    split
    · rename_i b
      simp only [Bool.and_eq_true, nodupB, decide_eq_true_eq, beq_iff_eq] at b
      obtain ⟨⟨⟨b1, b2⟩, b3⟩, b4⟩ := b
      have na := names_at h e0
      have hl : ∀ {es : List Expr} {js : List Nat}, namesAt X es js → js.length = es.length := by
        intro es
        induction es with
        | nil => intro js q; simp only [namesAt] at q; subst q; rfl
        | cons a es ih =>
          intro js q
          cases a with
          | Name x p =>
            obtain ⟨i, r, rfl, _, q⟩ := q
            simp only [List.length_cons, ih q]
          | _ => exact (show False from q).elim
      split
      · rename_i e1
        exact SS.parU h.hK (SA.of (fun e _ => trP_ok ih e) b2) (SG.tp h.hK h.hc h.nd na) b1 (by rw [List.length_map, b3, hl na]) (by rw [List.length_map]; exact b4) (swap_ok h hk e1)
      · rename_i xs e1
        split
        · rename_i x px y py a b
          split
          · rename_i z
            simp only [Bool.and_eq_true, beq_iff_eq] at z
            obtain ⟨⟨z1, z2⟩, z3⟩ := z
            subst z1
            simp only [List.all_cons, Bool.and_eq_true] at b2
            obtain ⟨i, r, rfl, hx, na⟩ := na
            obtain ⟨j, r, rfl, hy, na⟩ := na
            simp only [namesAt] at na
            subst na
            have hij : i ≠ j := fun e => by subst e; simp at b1
            exact SS.par2 h.hc h.nd hx.1 hy.1 hij (by rw [h.sc]; exact z2) (by rw [h.sc]; exact z3) (trP_ok ih _) (trP_ok ih _) b2.1 b2.2.1 (swap_ok h hk e1) rfl
          · exact SS.stop
        · rename_i x px y py w pw a b d
          split
          · rename_i z
            simp only [Bool.and_eq_true, beq_iff_eq] at z
            obtain ⟨⟨⟨z1, z2⟩, z3⟩, z4⟩ := z
            subst z1
            simp only [List.all_cons, Bool.and_eq_true] at b2
            obtain ⟨i, r, rfl, hx, na⟩ := na
            obtain ⟨j, r, rfl, hy, na⟩ := na
            obtain ⟨l, r, rfl, hz, na⟩ := na
            simp only [namesAt] at na
            subst na
            have hij : i ≠ j := fun e => by subst e; simp at b1
            have hil : i ≠ l := fun e => by subst e; simp at b1
            have hjl : j ≠ l := fun e => by subst e; simp at b1
            exact SS.par3 h.hc h.nd hx.1 hy.1 hz.1 hij hil hjl (by rw [h.sc]; exact z2) (by rw [h.sc]; exact z3) (by rw [h.sc]; exact z4) (trP_ok ih _) (trP_ok ih _) (trP_ok ih _) b2.1 b2.2.1 b2.2.2.1 (swap_ok h hk e1) rfl
          · exact SS.stop
        · exact SS.stop
      · exact SS.stop
    · exact SS.stop
  · exact SS.stop
theorem sound_setC (h : CxOk X g W c) (hk : X.env.scope.kind = .function) {n : Nat} (ie : IhE (trE n)) (it : IhT (trT n)) {e : Expr} {x : Str} {i : Nat} {p' pos : Pos} (hst : storeOf c x = some i) (hsw : swapB c e x p'.line = true) (hns : isSetC e = false) :
    SS X g W (.Assign [.Name x p'] e pos) (sSet i (trE (n + 1) c e)) := by
  have hsw' : swapsWith e (some (.Name x p')) pos.line X.env = pure true := by rw [sw_name h hk, hsw]
  have hnm := store_nm h hst
  have hloc : X.env.scope.names.lookup x = some .local := by
    rw [h.sc]
    unfold swapB at hsw
    split at hsw
    · simp only [Bool.and_eq_true, beq_iff_eq] at hsw; exact hsw.1.1
    · cases hsw
  cases e <;> first | (simp only [swapB, compScope] at hsw; cases hsw; done) | skip
  · rename_i elt gens scope pos2
    show SS X g W _ (sSet i (trLc1 c (trE n) (trT n) elt scope gens))
    unfold trLc1
    simp only
    split
    · split
      · rename_i b
        have ok := blk_ok h b
        split
        · rename_i c0 e0
          obtain ⟨o0, n0, v0⟩ := clause_ok h ie it e0
          exact SS.setLc h.hc h.nd hnm.1 hloc hsw' (sound_iter h (ie h)) ok (by rw [← v0]; exact o0.hk) o0.hg o0.ht (fun s H C cl fp => ie (h.blk s H scope C cl fp) elt) n0.hs
        · exact SS.setBy ⟨fun pins s σ H E I q => by obtain ⟨T, ρ, F, R, q⟩ := q; exact q.elim⟩
      · exact SS.setBy ⟨fun pins s σ H E I q => by obtain ⟨T, ρ, F, R, q⟩ := q; exact q.elim⟩
    · rename_i a b
      have r := sound_comp (c := c) (gens := [a, b]) (scope := scope) (new := .lst []) (em := fun tr => emLp (tr elt)) h ie it
      rcases compR_async r with e | ⟨t, i, f, rfl⟩
      · rw [e]; exact SS.setBy ⟨fun pins s σ H E I q => by obtain ⟨T, ρ, F, R, q⟩ := q; exact q.elim⟩
      · exact SS.setLc2 h.nd hnm.1 hloc hsw' (comp_lst2 h ie r)
    · exact SS.setBy ⟨fun pins s σ H E I q => by obtain ⟨T, ρ, F, R, q⟩ := q; exact q.elim⟩
  · cases hns
  · rename_i kx vx gens scope pos2
    unfold trE
    simp only
    split
    · rename_i a
      have r := sound_comp (c := c) (gens := [a]) (scope := scope) (new := .dic [] []) (em := fun tr => emDp (tr kx) (tr vx)) h ie it
      rcases compR_async r with e | ⟨t, i, f, rfl⟩
      · rw [e]; exact SS.setBy ⟨fun pins s σ H E I q => by obtain ⟨T, ρ, F, R, q⟩ := q; exact q.elim⟩
      · exact SS.setDc h.nd hnm.1 hloc hsw' (comp_dic1 h ie r)
    · rename_i a b d
      have r := sound_comp (c := c) (gens := [a, b, d]) (scope := scope) (new := .dic [] []) (em := fun tr => emDp (tr kx) (tr vx)) h ie it
      rcases compR_async r with e | ⟨t, i, f, rfl⟩
      · rw [e]; exact SS.setBy ⟨fun pins s σ H E I q => by obtain ⟨T, ρ, F, R, q⟩ := q; exact q.elim⟩
      · exact SS.setDc h.nd hnm.1 hloc hsw' (comp_dic3 h ie r)
    · exact SS.setBy ⟨fun pins s σ H E I q => by obtain ⟨T, ρ, F, R, q⟩ := q; exact q.elim⟩
theorem sound_assign (h : CxOk X g W c) (hk : X.env.scope.kind = .function) {n : Nat} {tg e : Expr} {pos : Pos} : SS X g W (.Assign [tg] e pos) (trAssign c (trE n c) tg e) := by
  have ih := (sound_et n).1 h
  unfold trAssign
  split
  · rename_i x p'
    split
    · rename_i i hst
      split
      · exact SS.stop
      · rename_i hns
        simp only [Bool.and_eq_true, not_and, Bool.not_eq_true] at hns
        have hnm := store_nm h hst
        cases hsw : swapB c e x p'.line with
        | true =>
          cases n with
          | zero => unfold trE; exact SS.setBy ⟨fun pins s σ H E I q => by obtain ⟨T, ρ, F, R, q⟩ := q; exact q.elim⟩
          | succ n => exact sound_setC h hk (sound_et n).1 (sound_et n).2 hst hsw (hns hsw)
        | false => exact SS.setBy (ps_set h.nd hnm.1 hnm.2.1 (ih e) (by rw [sw_name h hk, hsw]) hnm.2.2)
    · exact SS.stop
  · split
    · exact sound_par h hk ih
    · rename_i ne
      split
      · rename_i k e1
        refine SS.unp (ih e) (sound_tg h e1) ?_ ?_ rfl
        · cases e <;> first | rfl | exact absurd rfl (ne _ _ _)
        · cases e <;> first | rfl | exact absurd rfl (ne _ _ _)
      · split
        · rename_i is e2
          unfold starIx at e2
          split at e2
          · split at e2
            · rename_i i j ei ej
              split at e2
              · cases e2
              · rename_i hij
                cases e2
                refine SS.star h.hK h.hc h.nd (store_nm h ei) (store_nm h ej) hij (ih e) ?_ ?_
                · cases e <;> first | rfl | exact absurd rfl (ne _ _ _)
                · cases e <;> first | rfl | exact absurd rfl (ne _ _ _)
            · cases e2
          · cases e2
        · exact SS.stop
  · rename_i o ie p2
    split
    · rename_i i e1
      split
      · rename_i hp
        refine SS.putIx (by have := h.hu; omega) (ih e) (slot_o h e1) (ih ie) (fun v => ?_) ?_ ?_ rfl
        · cases ie <;> first | rfl | (simp [plainIx] at hp)
        · cases e <;> rfl
        · cases e <;> rfl
      · exact SS.stop
    · exact SS.stop
  · rename_i o f p2
    split
    · rename_i i e1
      refine SS.putF h.hK (by rw [← h.hK, ← h.hG]; exact h.tb.fl) (slot_o h e1) (ih e) ?_
      cases e <;> rfl
    · exact SS.stop
  · exact SS.stop
theorem sound_s : ∀ (n : Nat) {X : Cx} {g : Bg} {W : WX} {c : Tc}, CxOk X g W c → X.env.scope.kind = .function → (∀ st, SS X g W st (trS n c st)) ∧ ∀ sts, SSs X g W sts (trSs n c sts)
  | 0, X, g, W, c, h, hk => ⟨fun st => by unfold trS; exact SS.stop, fun sts => by unfold trSs; exact ⟨fun pins s σ H E I q => by obtain ⟨T, ρ, F, R, q⟩ := q; exact q.elim⟩⟩
  | n + 1, X, g, W, c, h, hk => by
    obtain ⟨ihS, ihSs⟩ := sound_s n h hk
    have ie := (sound_et n).1 h
    have it := (sound_et n).2 h
    refine ⟨fun st => ?_, fun sts => ?_⟩
    · unfold trS
      split
      · split
        · rename_i z; exact SS.expr (ie _) (sw_none (Option.isNone_iff_eq_none.mp z))
        · exact SS.stop
      · exact SS.retN
      · exact SS.ret (ie _)
      · exact SS.ite (it _) (ihSs _) (ihSs _)
      · split
        · rename_i hs
          split
          · rename_i k e1
            exact SS.for_ h.po h.hc (sound_iter h ie) (sound_tg h e1) (ihSs _) hs
          · exact SS.stop
        · exact SS.stop
      · exact SS.while_ h.po (it _) (ihSs _)
      · exact SS.pass
      · exact SS.brk
      · exact SS.cnt
      · exact sound_assign h hk
      · exact SS.stop
    · unfold trSs
      split
      · exact SSs.nil
      · exact SSs.one (ihS _)
      · exact SSs.cons (ihS _) (ihSs _)
end
end RF
end
section
/-! RB: how arguments come to parameters; what the top leaves. -/
namespace RF
open PySem L2

/-! ### arguments -/
def lstB (b : Bool) (x : Value) (l : List Value) : List Value := if b then x :: l else l
/-- how many defaults stand ahead of the j-th -/
def dIx : List Pm → Nat → Nat
  | [], _ => 0
  | _, 0 => 0
  | .dft _ :: ps, j + 1 => dIx ps j + 1
  | .arg _ :: ps, j + 1 => dIx ps j
structure BindB (K : PySem.W.Frag) (mg : Mg) (b : Bool) (fd : FuncData) (ps : List Str) (n : Nat) (ks : List Str) (pms : List Pm) : Prop where
  ex : ∃ (du : Nat → Value) (dv : Nat → V), (∀ j d, pms[j]? = some (.dft d) → RelV (dv j) (du j) ∧ ∀ F, Rep K mg F d (dv j)) ∧
    ∀ (s : Shared) (x : Value) (us ws : List Value), K.In s.heap → us.length = n → ws.length = ks.length → BindsTo s fd ⟨lstB b x us, ks.zip ws⟩ (ps.zip (lstB b x (pickU du (us ++ ws) 0 pms)))
  ix : ∀ i, Pm.arg i ∈ pms → i < n + ks.length
theorem BindB.p {K : PySem.W.Frag} {mg : Mg} {fd : FuncData} {ps : List Str} {n : Nat} {ks : List Str} {pms : List Pm} (h : BindB K mg false fd ps n ks pms) : BindP K mg fd ps n ks pms := by
  obtain ⟨⟨du, dv, h1, h2⟩, h3⟩ := h
  exact ⟨⟨du, dv, h1, fun s us ws X l1 l2 => h2 s .none us ws X l1 l2⟩, h3⟩
theorem BindB.s {K : PySem.W.Frag} {mg : Mg} {fd : FuncData} {ps : List Str} {n : Nat} {ks : List Str} {pms : List Pm} (h : BindB K mg true fd ps n ks pms) : SelfP K mg fd ps n ks pms := by
  obtain ⟨⟨du, dv, h1, h2⟩, h3⟩ := h
  exact ⟨⟨du, dv, h1, fun s x us ws X l1 l2 => h2 s x us ws X l1 l2⟩, h3⟩
def argsLt (n : Nat) : List Pm → Bool
  | [] => true
  | .arg i :: ps => decide (i < n) && argsLt n ps
  | .dft _ :: ps => argsLt n ps
theorem argsLt_ok {n : Nat} : ∀ {ps : List Pm}, argsLt n ps = true → ∀ i, Pm.arg i ∈ ps → i < n
  | [], _, i, h => by cases h
  | .arg j :: ps, h, i, hi => by
    simp only [argsLt, Bool.and_eq_true, decide_eq_true_eq] at h
    rcases List.mem_cons.mp hi with e | hi
    · cases e; exact h.1
    · exact argsLt_ok h.2 i hi
  | .dft _ :: ps, h, i, hi => by
    simp only [argsLt] at h
    rcases List.mem_cons.mp hi with e | hi
    · cases e
    · exact argsLt_ok h i hi
/-- the defaults of pms are these -/
def dftsAre (pms : List Pm) (ds : List D) : Prop := ∀ (j : Nat) (d : D), pms[j]? = some (Pm.dft d) → ds[dIx pms j]? = some d
section
variable {K : PySem.W.Frag} {mg : Mg} {x qual : Str} {params : Arguments} {body : List Stmt} {scope : Scope} {dvs : List V} {kws : List (Str × V)} {f : Addr} {fd : FuncData} {ps : List Str} {n : Nat} {ks : List Str} {pms : List Pm} {b : Bool}
/-- no default is taken -/
theorem bind0 (F : FunD K x qual params body scope [] kws f fd) (hix : argsLt (n + ks.length) pms = true) (hnd : ∀ (j : Nat) (d : D), pms[j]? = some (Pm.dft d) → False)
    (h : ∀ (kV doc pm : Value) (an : Option Addr) (cdv ct : Value) (y : Value) (us ws : List Value), us.length = n → ws.length = ks.length → bindArgs (PySem.W.fnOf x qual params body scope .none kV doc pm an cdv ct) ⟨lstB b y us, ks.zip ws⟩ = pure (ps.zip (lstB b y (pickU (fun _ => .none) (us ++ ws) 0 pms)))) : BindB K mg b fd ps n ks pms := by
  obtain ⟨oc, od, dV, kV, doc, pm, an, cdv, ct, osl, rfl, lk, hcd, hD, hK⟩ := F.ex
  refine ⟨⟨fun _ => .none, fun _ => .non, fun j d e => (hnd j d e).elim, fun s y us ws X l1 l2 => ?_⟩, argsLt_ok hix⟩
  rcases hD with ⟨_, rfl⟩ | ⟨e, _⟩
  · exact .of_eq (h kV doc pm an cdv ct y us ws l1 l2)
  · exact absurd rfl e
/-- keyword-only defaults ms are taken -/
theorem bindK (F : FunD K x qual params body scope [] kws f fd) (ms : List (Str × V)) (ds : List D) (hk : kws ≠ []) (hms : ∀ q ∈ ms, q ∈ kws) (hix : argsLt (n + ks.length) pms = true) (hds : dftsAre pms ds) (hdl : ds.length = ms.length)
    (hrp : ∀ (j : Nat) (d : D) (v : V), ds[j]? = some d → (ms.map (·.2))[j]? = some v → ∀ F, Rep K mg F d v)
    (h : ∀ (D : Addr) (doc pm : Value) (an : Option Addr) (cdv ct : Value) (y : Value) (us mv ws : List Value), us.length = n → mv.length = ms.length → ws.length = ks.length →
      KwChain D ((ms.map (·.1)).zip mv) (bindArgs (PySem.W.fnOf x qual params body scope .none (.ref D) doc pm an cdv ct) ⟨lstB b y us, ks.zip ws⟩) (ps.zip (lstB b y (pickU (fun j => mv.getD (dIx pms j) .none) (us ++ ws) 0 pms)))) : BindB K mg b fd ps n ks pms := by
  obtain ⟨oc, od, dV, kV, doc, pm, an, cdv, ct, osl, rfl, lk, hcd, hD, hK⟩ := F.ex
  rcases hK with e | ⟨D, rfl, hq⟩
  · exact absurd e hk
  · obtain ⟨mv, hl, rk, hks⟩ := kwd_vals (ms := ms) fun q hm => hq q (hms q hm)
    refine ⟨⟨fun j => mv.getD (dIx pms j) .none, fun j => (ms.map (·.2)).getD (dIx pms j) .non, fun j d e => ?_, fun s y us ws X l1 l2 => ?_⟩, argsLt_ok hix⟩
    · have e1 := hds j d e
      have hlt : dIx pms j < ds.length := (List.getElem?_eq_some_iff.mp e1).1
      have h1 : dIx pms j < (ms.map (·.2)).length := by rw [List.length_map]; omega
      have h2 : dIx pms j < mv.length := by omega
      have e2 : (ms.map (·.2))[dIx pms j]? = some (ms.map (·.2))[dIx pms j] := List.getElem?_eq_getElem h1
      refine ⟨?_, fun F => ?_⟩
      · obtain ⟨u, q1, q2⟩ := rk.get e2
        simp only [List.getD_eq_getElem?_getD, e2, q1, Option.getD_some]
        exact q2
      · simp only [List.getD_eq_getElem?_getD, e2, Option.getD_some]
        exact hrp _ _ _ e1 e2 F
    · rcases hD with ⟨_, rfl⟩ | ⟨e, _⟩
      · refine BindsTo.of_looks fun M => ?_
        exact KwChain.looks X hks (h D doc pm an cdv ct y us mv ws l1 hl l2)
      · exact absurd rfl e
/-- positional defaults dvs, all written in the def; those taken stand in pms -/
theorem bindD (F : FunD K x qual params body scope dvs kws f fd) (ds : List D) (hd : dvs ≠ []) (off : Nat) (hix : argsLt (n + ks.length) pms = true) (hds : dftsAre pms ds) (hdl : off + ds.length ≤ dvs.length)
    (hrp : ∀ (j : Nat) (d : D) (v : V), ds[j]? = some d → dvs[off + j]? = some v → ∀ F, Rep K mg F d v)
    (h : ∀ (T : Addr) (kV doc pm : Value) (an : Option Addr) (cdv ct : Value) (y : Value) (us its ws : List Value), us.length = n → its.length = dvs.length → ws.length = ks.length →
      ∃ k, bindArgs (PySem.W.fnOf x qual params body scope (.ref T) kV doc pm an cdv ct) ⟨lstB b y us, ks.zip ws⟩ = seqItems? (.ref T) >>= k ∧ k (some its.toArray) = pure (ps.zip (lstB b y (pickU (fun j => its.getD (off + dIx pms j) .none) (us ++ ws) 0 pms)))) : BindB K mg b fd ps n ks pms := by
  obtain ⟨oc, od, dV, kV, doc, pm, an, cdv, ct, osl, rfl, lk, hcd, hD, hK⟩ := F.ex
  rcases hD with ⟨e, _⟩ | ⟨_, T, o, its, m, rfl, lT, oT, rT⟩
  · exact absurd e hd
  · refine ⟨⟨fun j => its.getD (off + dIx pms j) .none, fun j => dvs.getD (off + dIx pms j) .non, fun j d e => ?_, fun s y us ws X l1 l2 => ?_⟩, argsLt_ok hix⟩
    · have e1 := hds j d e
      have hlt : dIx pms j < ds.length := (List.getElem?_eq_some_iff.mp e1).1
      have h1 : off + dIx pms j < dvs.length := by omega
      have e2 : dvs[off + dIx pms j]? = some dvs[off + dIx pms j] := List.getElem?_eq_getElem h1
      refine ⟨?_, fun F => ?_⟩
      · obtain ⟨u, q1, q2⟩ := rT.get e2
        simp only [List.getD_eq_getElem?_getD, e2, q1, Option.getD_some]
        exact q2
      · simp only [List.getD_eq_getElem?_getD, e2, Option.getD_some]
        exact hrp _ _ _ e1 e2 F
    · obtain ⟨k, e1, e2⟩ := h T kV doc pm an cdv ct y us its ws l1 rT.length.symm l2
      refine BindsTo.of_looks fun M => ?_
      rw [e1]
      exact looks_items X lT oT (PySem.W.Looks.of_pure e2)
end
/-! ### a def by its text -/
def tcOf (t : Tbl) (k : Nat) (N : List Str) (scope : Scope) : Tc := ⟨t, k, N, scope, fun _ => true⟩
def fuelN : Nat := 60
def semOf (t : Tbl) (k : Nat) (N : List Str) (modes : List Bool) (scope : Scope) (body : List Stmt) : FunSem := mkFun N.length modes (trSs fuelN (tcOf t k N scope) body)
theorem def_ok {P : Program} {w : World} {K : PySem.W.Frag} {mg : Str → Option Value} {base : Heap} {t : Tbl} (T : TblOk P w K mg base t) {x qual : Str} {params : Arguments} {body : List Stmt} {scope : Scope} {dvs : List V} {kws : List (Str × V)} {f : Addr} {fd : FuncData} (Fd : FunD K x qual params body scope dvs kws f fd)
    {N ps : List Str} (S : FnScope N ps scope) {modes : List Bool} (hm : modes.length = ps.length) (hps : ps.length ≤ N.length) (k : Nat) {fs : FunSem} (e : semOf t k N modes scope body = fs) : FnOk P w K mg base (L2.CX P w) (k + 1) f fd ps (spF K ⟨mg, P, w⟩ fs) := by
  subst e
  refine fun_ok (mg := ⟨mg, P, w⟩) Fd S hm hps fun cdv A outer s H E g hr hK hG => ?_
  refine (sound_s fuelN (c := tcOf t k N scope) ?_ S.kind).2 body
  exact ⟨rfl, S.nd, rfl, rfl, hK.symm, hG.symm, rfl, hr, takes_of rfl rfl rfl rfl, passes_of rfl, T⟩
/-! ### tables grow -/
def Tbl.addG (t : Tbl) (x : Str) (e : Gb) : Tbl := { t with gs := (x, e) :: t.gs }
def Tbl.addM (t : Tbl) (name : Str) (n : Nat) (ks : List Str) (k : Nat) (l : List (Str × FunSem × List Pm)) : Tbl := { t with mt := ((name, n, ks), k, l) :: t.mt }
section
variable {P : Program} {w : World} {K : PySem.W.Frag} {mg : Str → Option Value} {base : Heap} {t : Tbl}
theorem TblOk.addG (T : TblOk P w K mg base t) {x : Str} {e : Gb} (h : GbOk P w K mg base x e) : TblOk P w K mg base (t.addG x e) := by
  refine ⟨fun y e' q => ?_, T.fr, T.md, T.fl, T.mt⟩
  simp only [Tbl.addG, List.lookup_cons] at q
  split at q
  · rename_i z
    cases q
    rw [beq_iff_eq.mp z]; exact h
  · exact T.gs _ _ q
theorem TblOk.addM (T : TblOk P w K mg base t) {name : Str} {n : Nat} {ks : List Str} {k : Nat} {l : List (Str × FunSem × List Pm)} (h : ∀ c f, l.lookup c = some f → MtOk P w K mg base name n ks k c f.1 f.2) : TblOk P w K mg base (t.addM name n ks k l) := by
  refine ⟨T.gs, T.fr, T.md, T.fl, fun q r e => ?_⟩
  simp only [Tbl.addM, List.lookup_cons] at e
  split at e
  · rename_i z
    cases e
    rw [beq_iff_eq.mp z]; exact h
  · exact T.mt _ _ e
theorem mt_one {name : Str} {n : Nat} {ks : List Str} {k : Nat} {c : Str} {fs : FunSem} {pms : List Pm} (h : MtOk P w K mg base name n ks k c fs pms) : ∀ c' f, List.lookup c' [(c, fs, pms)] = some f → MtOk P w K mg base name n ks k c' f.1 f.2 := fun c' f q => by
  simp only [List.lookup_cons] at q
  split at q
  · rename_i z; cases q; rw [beq_iff_eq.mp z]; exact h
  · cases q
theorem mt_cons {name : Str} {n : Nat} {ks : List Str} {k : Nat} {c : Str} {fs : FunSem} {pms : List Pm} {l : List (Str × FunSem × List Pm)} (h : MtOk P w K mg base name n ks k c fs pms) (hl : ∀ c' f, l.lookup c' = some f → MtOk P w K mg base name n ks k c' f.1 f.2) : ∀ c' f, List.lookup c' ((c, fs, pms) :: l) = some f → MtOk P w K mg base name n ks k c' f.1 f.2 := fun c' f q => by
  simp only [List.lookup_cons] at q
  split at q
  · rename_i z; cases q; rw [beq_iff_eq.mp z]; exact h
  · exact hl _ _ q
end
end RF
end
section
/-! RH: what the top leaves, as facts of the written heap. -/
namespace RF
open PySem L2

abbrev Fc := PySem.W.Frag → Bool
def obsX (fa : List Fc) (fn : List He.DefD) (K : PySem.W.Frag) : He.AlD := ((fa.all fun f => f K) && fn.all fun d => d.ok K, fn.map fun d => He.fnW K d.at_)
def SaysX (fa : List Fc) (fn : List He.DefD) (K : PySem.W.Frag) : Prop := obsX fa fn K = He.valD fn
def obsXG (n : Nat) (fa : List Fc) (fn : List He.DefD) (g : Addr → Option Obj) : He.AlD := obsX fa fn (He.frG g (He.asD g n))
def hookX (n : Nat) (fa : List Fc) (fn : List He.DefD) : PySem.W.Hook where
  α := He.AlD
  obs := fun s => obsXG n fa fn s.heap.get?
  val := fun _ => He.valD fn
  says := fun _ h => ∃ K : PySem.W.Frag, K.In h ∧ SaysX fa fn K
  of := fun _ _ e => ⟨_, He.frG_in, e⟩
  keeps := fun _ _ _ ⟨K, hK, c⟩ k => ⟨K, PySem.W.Frag.In.keeps hK k, c⟩
theorem obsXG_eq {n : Nat} {fa : List Fc} {fn : List He.DefD} {g : Addr → Option Obj} {s : Shared} (h : ∀ a, g a = s.heap.get? a) : obsXG n fa fn g = (hookX n fa fn).obs s := by
  have e : g = s.heap.get? := funext h
  rw [e] <;> rfl
section
variable {fa : List Fc} {fn : List He.DefD} {K : PySem.W.Frag}
theorem SaysX.fact (c : SaysX fa fn K) {f : Fc} (h : f ∈ fa) : f K = true := by
  have c1 := (He.ba (congrArg (fun z : He.AlD => z.1) c)).1
  exact List.all_eq_true.mp c1 f h
theorem SaysX.def_ (c : SaysX fa fn K) (i : Nat) {d : He.DefD} (h : fn[i]? = some d) : ∃ fd, FunD K d.name d.qual d.params d.body d.scope (d.dvs K) (d.kws K) (He.fAd K d.at_) fd := by
  have c2 := (He.ba (congrArg (fun z : He.AlD => z.1) c)).2
  have e : fn.map (fun d => He.fnW K d.at_) = fn.map He.DefD.val := congrArg (fun z : He.AlD => z.2) c
  have e2 : (fn.map fun d => He.fnW K d.at_)[i]? = (fn.map He.DefD.val)[i]? := by rw [e]
  rw [List.getElem?_map, List.getElem?_map, h] at e2
  exact He.DefD.funD (Option.some.inj e2) (List.all_eq_true.mp c2 d (List.mem_of_getElem? h))
end
/-! ### facts -/
def oB (a b : Option Bool) : Bool := decide (a = b)
def clsB (cs : List Str) (c : Str) : Fc := fun K => (He.Fa.glo c).ok K && ((He.Fa.cls c).ok K && (He.eqO (PySem.W.findIn K (.ref (He.ga K c)) "__class__") (some (some (.builtin "object.__class__"))) &&
  (He.eqO (PySem.W.specialIn K (.builtin "object.__class__") "__get__") (some (some (.builtin "getset_descriptor.__get__"))) && (oB (PySem.W.takesIn K (.builtin "object.__class__")) (some true) && (oB (PySem.W.mroIn K (He.ga K c) (.type "object")) (some true) &&
  ((cNames.all fun b => oB (PySem.W.kitOne K (.ref (He.ga K c)) (.type b)) (some false)) && ((kNames.all fun a => oB (PySem.W.kitOne K (.type a) (.ref (He.ga K c))) (some false)) &&
  ((cs.all fun c' => oB (PySem.W.kitOne K (.ref (He.ga K c)) (.ref (He.ga K c'))) (some (c == c'))) && He.eqO (PySem.W.findIn K (.ref (He.ga K c)) "__bool__") (some none)))))))))
def fnB (f : Str) : Fc := fun K => (He.Fa.glo f).ok K && (match K.lookup (He.ga K f) with
  | some o => (match o.cls with | .type n => decide (n = "function") | _ => false)
  | none => false)
def fldB (p : Str × Str) : Fc := fun K => (He.Fa.glo p.1).ok K && ((He.Fa.cls p.1).ok K && (He.Fa.noat p.1 p.2).ok K)
def frB (x : Str) : Fc := fun K => (He.Fa.free x).ok K
def gloB (x : Str) : Fc := fun K => (He.Fa.glo x).ok K
def intB (p : Str × Int) : Fc := fun K => (He.Fa.int p.1 p.2).ok K
def strB (p : Str × Str) : Fc := fun K => (He.Fa.str p.1 p.2).ok K
def mkB (c : Str) : Fc := fun K => (He.Fa.glo c).ok K && (He.Fa.mkr c).ok K
def mtB (p : Str × Str) : Fc := fun K => (He.Fa.meth p.1 p.2).ok K
/-- an empty tuple stands there -/
def tup0B (a : PySem.W.Frag → Addr) : Fc := fun K => match K.lookup (a K) with
  | some o => (match o.cls with | .type n => decide (n = "tuple") | _ => false) && o.dict.isNone && (match o.data with | .seq its _ => decide (its.size = 0) | _ => false)
  | none => false
theorem tup0_ok {a : PySem.W.Frag → Addr} {K : PySem.W.Frag} {mg : Mg} (h : tup0B a K = true) (F : Hp) : Rep K mg F (.tup []) (.ref (a K)) := by
  unfold tup0B at h
  cases q : K.lookup (a K) with
  | none => rw [q] at h; cases h
  | some o =>
    rw [q] at h
    obtain ⟨h0, h2⟩ := He.ba h
    obtain ⟨h1, h3⟩ := He.ba h0
    clear h h0
    obtain ⟨oc, od, dt, osl⟩ := o
    cases oc <;> first | (cases h1; done) | skip
    cases dt <;> first | (cases h2; done) | skip
    rename_i c its n
    have e0 : od = none := by cases od with | none => rfl | some _ => cases h3
    subst e0
    have e1 : c = "tuple" := of_decide_eq_true h1
    have e2 : its.size = 0 := of_decide_eq_true h2
    have e3 : its = #[] := Array.eq_empty_of_size_eq_zero e2
    subst e1 e3
    unfold Rep
    exact ⟨_, [], rfl, .inr ⟨_, #[], n, q, rfl, rfl, rfl, by show 0 ≤ sizeLine; decide, .nil⟩, Nat.zero_le _, by simp [Reps]⟩
/-- a keyword-only default, if it is an object -/
def kwAt (f : Str × Option Str) (name : Str) (K : PySem.W.Frag) : Addr := match K.lookup (He.fAd K f) with
  | some ⟨_, _, .func fd, _⟩ => (match fd.kwdefaults with
    | .ref D => (match PySem.W.nsIn K D name with
      | some (some (.ref a)) => a
      | _ => 0)
    | _ => 0)
  | _ => 0
section
variable {P : Program} {w : World} {K : PySem.W.Frag} {h : Heap} {mg : Str → Option Value}
theorem clsB_ok (X : K.In h) (G : h.Ns mainGlobals mg) {cs : List Str} (all : ∀ c ∈ cs, clsB cs c K = true) {c : Str} (hc : c ∈ cs) : ClsF K ⟨mg, P, w⟩ cs c (He.ga K c) := by
  obtain ⟨a1, a⟩ := He.ba (all c hc)
  obtain ⟨a2, a⟩ := He.ba a
  obtain ⟨a3, a⟩ := He.ba a
  obtain ⟨a4, a⟩ := He.ba a
  obtain ⟨a5, a⟩ := He.ba a
  obtain ⟨a6, a⟩ := He.ba a
  obtain ⟨a7, a⟩ := He.ba a
  obtain ⟨a8, a⟩ := He.ba a
  obtain ⟨a9, a10⟩ := He.ba a
  refine ⟨He.glo_ok X G a1, He.cls_ok a2, He.eqO_ok a3, He.eqO_ok a4, of_decide_eq_true a5, of_decide_eq_true a6, fun b hb => of_decide_eq_true (List.all_eq_true.mp a7 b hb), fun b hb => of_decide_eq_true (List.all_eq_true.mp a8 b hb), fun c' hc' C' e => ?_, He.eqO_ok a10⟩
  have e' : mg c' = some (.ref C') := e
  rw [He.glo_ok X G (He.ba (all c' hc')).1] at e'
  cases e'
  exact of_decide_eq_true (List.all_eq_true.mp a9 c' hc')
theorem modF_of (X : K.In h) (G : h.Ns mainGlobals mg) {cs fs : List Str} (hc : ∀ c ∈ cs, clsB cs c K = true) (hf : ∀ f ∈ fs, fnB f K = true) : ModF K ⟨mg, P, w⟩ cs fs := by
  refine ⟨fun c h => ⟨_, clsB_ok X G hc h⟩, fun f h => ?_⟩
  obtain ⟨a1, a2⟩ := He.ba (hf f h)
  cases q : K.lookup (He.ga K f) with
  | none => rw [q] at a2; cases a2
  | some o =>
    rw [q] at a2
    obtain ⟨oc, od, dt, osl⟩ := o
    cases oc <;> first | (cases a2; done) | skip
    rename_i n
    have e1 : n = "function" := of_decide_eq_true a2
    subst e1
    exact ⟨_, _, He.glo_ok X G a1, q, rfl⟩
theorem fldF_of (X : K.In h) (G : h.Ns mainGlobals mg) {fl : List (Str × Str)} (hf : ∀ p ∈ fl, fldB p K = true) : FldF K ⟨mg, P, w⟩ fl := by
  intro p hp
  obtain ⟨a1, a2⟩ := He.ba (hf p hp)
  obtain ⟨a2, a3⟩ := He.ba a2
  exact ⟨_, He.glo_ok X G a1, He.cls_ok a2, He.noat_ok a3⟩
/-- the first table: constants, free names, classes, fields -/
def tbl0 (inz : List (Str × Int)) (stz : List (Str × Str)) (fr cs fs : List Str) (fl : List (Str × Str)) : Tbl := ⟨(inz.map fun p => (p.1, Gb.int p.2)) ++ stz.map fun p => (p.1, Gb.str p.2), fr, cs, fs, fl, []⟩
def facts0 (inz : List (Str × Int)) (stz : List (Str × Str)) (fr cs fs : List Str) (fl : List (Str × Str)) : List Fc := inz.map intB ++ (stz.map strB ++ (fr.map frB ++ (cs.map (clsB cs) ++ (fs.map fnB ++ fl.map fldB))))
theorem lookup_mem {α : Type} : ∀ {l : List (Str × α)} {x : Str} {a : α}, l.lookup x = some a → (x, a) ∈ l
  | (y, b) :: l, x, a, h => by
    simp only [List.lookup_cons] at h
    split at h
    · rename_i z; cases h; rw [beq_iff_eq.mp z]; exact List.mem_cons_self
    · exact List.mem_cons_of_mem _ (lookup_mem h)
theorem tbl0_ok {base : Heap} (X : K.In h) (G : h.Ns mainGlobals mg) {inz : List (Str × Int)} {stz : List (Str × Str)} {fr cs fs : List Str} {fl : List (Str × Str)} {fa : List Fc} {fn : List He.DefD} (c : SaysX (facts0 inz stz fr cs fs fl ++ fa) fn K) : TblOk P w K mg base (tbl0 inz stz fr cs fs fl) := by
  have f1 : ∀ p ∈ inz, intB p K = true := fun p hp => c.fact (by unfold facts0; simp only [List.mem_append, List.mem_map]; exact .inl (.inl ⟨p, hp, rfl⟩))
  have f2 : ∀ p ∈ stz, strB p K = true := fun p hp => c.fact (by unfold facts0; simp only [List.mem_append, List.mem_map]; exact .inl (.inr (.inl ⟨p, hp, rfl⟩)))
  have f3 : ∀ p ∈ fr, frB p K = true := fun p hp => c.fact (by unfold facts0; simp only [List.mem_append, List.mem_map]; exact .inl (.inr (.inr (.inl ⟨p, hp, rfl⟩))))
  have f4 : ∀ p ∈ cs, clsB cs p K = true := fun p hp => c.fact (by unfold facts0; simp only [List.mem_append, List.mem_map]; exact .inl (.inr (.inr (.inr (.inl ⟨p, hp, rfl⟩)))))
  have f5 : ∀ p ∈ fs, fnB p K = true := fun p hp => c.fact (by unfold facts0; simp only [List.mem_append, List.mem_map]; exact .inl (.inr (.inr (.inr (.inr (.inl ⟨p, hp, rfl⟩))))))
  have f6 : ∀ p ∈ fl, fldB p K = true := fun p hp => c.fact (by unfold facts0; simp only [List.mem_append, List.mem_map]; exact .inl (.inr (.inr (.inr (.inr (.inr ⟨p, hp, rfl⟩))))))
  refine ⟨fun x e q => ?_, fun x hx => ?_, modF_of X G f4 f5, fldF_of X G f6, fun q r e => by cases e⟩
  · have m := lookup_mem q
    simp only [tbl0, List.mem_append, List.mem_map, Prod.mk.injEq] at m
    rcases m with ⟨p, hp, rfl, rfl⟩ | ⟨p, hp, rfl, rfl⟩
    · exact He.int_ok X G (f1 p hp)
    · exact He.str_ok X G (f2 p hp)
  · exact He.free_ok X G (f3 x (by simpa [tbl0] using hx))
theorem gb_fn {base : Heap} (X : K.In h) (G : h.Ns mainGlobals mg) {x qual : Str} {params : Arguments} {body : List Stmt} {scope : Scope} {dvs : List V} {kws : List (Str × V)} {fd : FuncData} (Fd : FunD K x qual params body scope dvs kws (He.fAd K (x, none)) fd) (hg : gloB x K = true)
    {fs : FunSem} {k : Nat} {ps : List Str} {np : Option Nat} {shs : List Sh} (Fn : FnOk P w K mg base (L2.CX P w) k (He.fAd K (x, none)) fd ps (spF K ⟨mg, P, w⟩ fs)) (hb : ∀ n, np = some n → Binds K fd ps []) (hs : ∀ s ∈ shs, BindB K ⟨mg, P, w⟩ false fd ps s.n s.ks s.pms) : GbOk P w K mg base x (.fn fs k np shs) :=
  ⟨_, fd, ps, Fn, He.glo_ok X G hg, Fd.kp, hb, fun s h => (hs s h).p⟩
theorem gb_cl {base : Heap} (X : K.In h) (G : h.Ns mainGlobals mg) {c : Str} {fd : FuncData} (hg : mkB c K = true)
    {fs : FunSem} {k : Nat} {ps : List Str} {shs : List Sh} (Fn : FnOk P w K mg base (L2.CX P w) k (He.fAd K (c, some "__init__")) fd ps (spF K ⟨mg, P, w⟩ fs)) (hm : ∃ ms, fs.modes = true :: ms) (hs : ∀ s ∈ shs, BindB K ⟨mg, P, w⟩ true fd ps s.n s.ks s.pms) : GbOk P w K mg base c (.cl fs k shs) := by
  obtain ⟨a1, a2⟩ := He.ba hg
  exact ⟨_, _, fd, ps, He.mkr_ok a2, Fn, hm, He.glo_ok X G a1, fun s h => (hs s h).s⟩
theorem mt_of {base : Heap} (X : K.In h) (G : h.Ns mainGlobals mg) {c m : Str} {fd : FuncData} (hg : gloB c K = true) (hc : (He.Fa.cls c).ok K = true) (hm : mtB (c, m) K = true) {fs : FunSem} {k kk : Nat} {ps : List Str} {n : Nat} {ks : List Str} {pms : List Pm} (hk : k ≤ kk)
    (Fn : FnOk P w K mg base (L2.CX P w) k (He.fAd K (c, some m)) fd ps (spF K ⟨mg, P, w⟩ fs)) (hs : BindB K ⟨mg, P, w⟩ true fd ps n ks pms) : MtOk P w K mg base m n ks kk c fs pms :=
  ⟨_, _, fd, ps, k, hk, He.glo_ok X G hg, He.cls_ok hc, He.meth_ok hm, Fn, hs.s⟩
end
end RF
end
section
/-! RL: a law's end. -/
namespace RF
open PySem L2
/-- no list is written in the heap's known part -/
def nolB : Fc := fun K => K.all fun p => match p.2.cls with | .type n => decide (n ≠ "list") | _ => true
theorem memK {a : Addr} {o : Obj} : ∀ {K : PySem.W.Frag}, K.lookup a = some o → (a, o) ∈ K
  | [], h => by cases h
  | (b, u) :: K, h => by
    have h : (match a == b with | true => some u | false => List.lookup a K) = some o := h
    cases q : (a == b) with
    | true => rw [q] at h; cases h; rw [beq_iff_eq.mp q]; exact List.mem_cons_self
    | false => rw [q] at h; exact List.mem_cons_of_mem _ (memK h)
theorem nol_ok {K : PySem.W.Frag} (h : nolB K = true) {a : Addr} {o : Obj} (e : K.lookup a = some o) (c : o.cls = .type "list") : False := by
  have m : (a, o) ∈ K := memK e
  have z := List.all_eq_true.mp h _ m
  simp only [c] at z
  exact absurd z (by decide)
theorem law_sp {K : PySem.W.Frag} {mg : Mg} {f : FunSem} (hn : nolB K = true) (hm : f.modes = [false]) {n : Nat} (hz : n ≤ sizeLine) (hp : ∀ ns : List Int, ns.length ≤ n → f.run [.lst (ns.map D.int)] = .ret false (.bl true) []) :
    ∀ (H : Hp) (a : Addr) (ns : List Int), ns.length ≤ n → Only H → SqL K H a (ns.map V.int) → spF K mg f [.ref a] H (fun v _ => v = .bl true) fun _ _ _ => False := by
  intro H a ns hl _ hS
  have hr : SqR H a (ns.map V.int) := by
    rcases hS with r | ⟨o, its, m, e, c, _⟩
    · exact r
    · exact (nol_ok hn e c).elim
  have reps : ∀ ns : List Int, Reps K mg H (ns.map D.int) (ns.map V.int) := by
    intro ns
    induction ns with
    | nil => exact Reps.nil
    | cons i ns ih => exact Reps.cons (rep_int (i := i) H) ih
  refine ⟨H, [.lst (ns.map D.int)], Sub.refl H, ?_, ?_, ?_⟩
  · rw [hm]
    refine ⟨_, _, _, _, rfl, rfl, ?_, ?_⟩
    · show Rep K mg H _ _
      unfold Rep
      exact ⟨a, _, rfl, hr, by rw [List.length_map]; omega, reps ns⟩
    · exact ⟨rfl, rfl⟩
  · rw [hm]; simp [borA, bor1]
  · rw [hm, hp ns hl]
    intro v H' F' P r
    have r : Rep K mg F' (.bl true) v := r
    simpa [Rep] using r
theorem cx_no {P : Program} {w : World} (H : Hp) (s : Shared) (e : Value) (s' : Shared) : L2.CX P w [] H s (fun _ _ _ => False) e s' → False := by
  rintro ⟨a, B, H', cls, d, _, _, _, _, _, _, _, z⟩
  exact z
/-! ### short forms for the printed part -/
theorem SaysX.at {a b : List Fc} {fn : List He.DefD} {K : PySem.W.Frag} (c : SaysX (a ++ b) fn K) (i : Nat) {f : Fc} (h : b[i]? = some f) : f K = true := c.fact (List.mem_append_right _ (List.mem_of_getElem? h))
def noDft : List Pm → Bool
  | [] => true
  | .arg _ :: ps => noDft ps
  | .dft _ :: _ => false
theorem noDft_ok : ∀ {ps : List Pm}, noDft ps = true → ∀ (j : Nat) (d : D), ps[j]? = some (Pm.dft d) → False
  | [], _, j, d, e => by simp at e
  | .arg _ :: ps, h, 0, d, e => by simp at e
  | .arg _ :: ps, h, j + 1, d, e => noDft_ok (ps := ps) h j d (by simpa using e)
  | .dft _ :: _, h, _, _, _ => by cases h
def dfts : List Pm → List D
  | [] => []
  | .arg _ :: ps => dfts ps
  | .dft d :: ps => d :: dfts ps
theorem dfts_are : ∀ ps : List Pm, dftsAre ps (dfts ps)
  | [], j, d, e => by simp at e
  | .arg _ :: ps, 0, d, e => by simp at e
  | .arg _ :: ps, j + 1, d, e => dfts_are ps j d (by simpa using e)
  | .dft d' :: ps, 0, d, e => by simp at e; subst e; rfl
  | .dft d' :: ps, j + 1, d, e => by
    have := dfts_are ps j d (by simpa using e)
    simpa [dIx, dfts] using this
def repAll (K : PySem.W.Frag) (mg : Mg) : List D → List V → Prop
  | [], _ => True
  | d :: ds, v :: vs => (∀ F, Rep K mg F d v) ∧ repAll K mg ds vs
  | _ :: _, [] => False
theorem repAll_ok {K : PySem.W.Frag} {mg : Mg} : ∀ {ds : List D} {vs : List V}, repAll K mg ds vs → ∀ (j : Nat) (d : D) (v : V), ds[j]? = some d → vs[j]? = some v → ∀ F, Rep K mg F d v
  | [], _, _, j, d, v, e, _ => by simp at e
  | d' :: ds, v' :: vs, h, 0, d, v, e, e' => by simp at e e'; subst e e'; exact h.1
  | d' :: ds, v' :: vs, h, j + 1, d, v, e, e' => repAll_ok h.2 j d v (by simpa using e) (by simpa using e')
  | _ :: _, [], h, _, _, _, _, _ => h.elim
theorem ba1 {K : PySem.W.Frag} {mg : Mg} {b : Bool} {fd : FuncData} {ps : List Str} {s : Sh} {l : List Sh} (h : BindB K mg b fd ps s.n s.ks s.pms) (t : ∀ s ∈ l, BindB K mg b fd ps s.n s.ks s.pms) : ∀ z ∈ s :: l, BindB K mg b fd ps z.n z.ks z.pms := fun z hz => by
  rcases List.mem_cons.mp hz with rfl | hz
  · exact h
  · exact t z hz
theorem ba0 {K : PySem.W.Frag} {mg : Mg} {b : Bool} {fd : FuncData} {ps : List Str} : ∀ z ∈ ([] : List Sh), BindB K mg b fd ps z.n z.ks z.pms := fun z hz => by cases hz
theorem np0 {α : Prop} : ∀ n : Nat, (none : Option Nat) = some n → α := fun _ h => by cases h
/-- a law by its promise, whatever may fly: over each world -/
theorem walkW {l : PySem.W.OpenLaw} {q : Program} {lo : List Str} {XP : (Str → Option Value) → Heap → Prop} {YP : World → Heap → Prop} {d : DefRec} {x : Str} {n k : Nat}
    (hn : l.most = some n) (hz : n ≤ sizeLine) (hd : d.params.defaults = []) (hr : Room k callerA)
    (F : ∀ (w : World) (mg : Str → Option Value) (f : Addr) (h : Heap), YP w h → h.Ns mainGlobals mg → mg d.name = some (.ref f) → ∃ (K : PySem.W.Frag) (fd : FuncData) (sp : Sp),
      K.In h ∧ (∀ (s : Shared) (u : Value), BindsTo s fd ⟨[u], []⟩ [(x, u)]) ∧ (∀ (H : Hp) (a : Addr) (ns : List Int), ns.length ≤ n → Only H → SqL K H a (ns.map V.int) → sp [.ref a] H (fun v _ => v = .bl true) fun _ _ _ => False) ∧
        ∀ b : Heap, K.In b → b.Ns mainGlobals mg → FnOk l.prog w K mg b (L2.CX l.prog w) k f fd [x] sp) : PySem.W.WalkO q lo XP YP l.row.toRowW d [] (fun f vs => PySem.call f vs) := by
  refine Att.attach_call hn hd ?_
  intro w s0 s1 mg mb f o pm cd doc a vs ns G Y ho hdd hcd hmg hobj hin hlen hg
  obtain ⟨K, fd, sp, KX, hb, hsp, hF⟩ := F w mg f _ Y G.T.g hmg
  refine law_call KX G.T.g G.T.b G.T.builtins G.T.nolimit hg hobj hin (Nat.le_trans hlen hz) hr hF hb ?_ ?_
  · intro H hO hS; exact hsp H a ns hlen hO hS
  · intro H e s'; exact cx_no H s1 e s'
end RF
end
section
/-! RP: reckoning with mirrors. -/
namespace RF
open PySem L2

/-- a mark: what stands behind is not looked into -/
inductive Tag {α : Type} (a : α) : Type
  | mk
@[irreducible] def R.wp {α : Type} (x : R α) (Q : α → Env → Prop) (_ : Tag Q := .mk) : Prop := match x with
  | .ok a ρ => Q a ρ | _ => False
@[irreducible] def FR.wp (x : FR) (Q : Bool → D → List D → Prop) (_ : Tag Q := .mk) : Prop := match x with
  | .ret fr d outs => Q fr d outs | _ => False
@[irreducible] def owp {α : Type} (x : Option α) (Q : α → Prop) (_ : Tag Q := .mk) : Prop := match x with
  | some a => Q a | none => False
theorem R.wp_mono {α : Type} {x : R α} {Q Q' : α → Env → Prop} (h : x.wp Q) (f : ∀ a ρ, Q a ρ → Q' a ρ) : x.wp Q' := by
  unfold R.wp at *; cases x <;> first | exact f _ _ h | exact h.elim
theorem FR.wp_mono {x : FR} {Q Q' : Bool → D → List D → Prop} (h : x.wp Q) (f : ∀ a b c, Q a b c → Q' a b c) : x.wp Q' := by
  unfold FR.wp at *; cases x <;> first | exact f _ _ _ h | exact h.elim
theorem R.wp_ext {α : Type} {x : R α} {Q Q' : α → Env → Prop} (h : ∀ a ρ, Q a ρ = Q' a ρ) : x.wp Q = x.wp Q' := by
  have : Q = Q' := funext fun a => funext fun ρ => h a ρ
  rw [this]
theorem owp_ext {α : Type} {x : Option α} {Q Q' : α → Prop} (h : ∀ a, Q a = Q' a) : owp x Q = owp x Q' := by
  have : Q = Q' := funext h
  rw [this]
section
variable {α β : Type} {ρ : Env} {Q : OV → Env → Prop} {Qb : Bool → Env → Prop} {Qf : Fl → Env → Prop} {Ql : List OV → Env → Prop} {Qd : List D → Env → Prop}
@[simp ↓] theorem wp_ok {a : α} {P : α → Env → Prop} : (R.ok a ρ).wp P = P a ρ := by unfold R.wp; rfl
@[simp ↓] theorem wp_no {P : α → Env → Prop} : (R.no : R α).wp P = False := by unfold R.wp; rfl
@[simp ↓] theorem wp_ex {P : α → Env → Prop} {e : D} : (R.ex e ρ : R α).wp P = False := by unfold R.wp; rfl
@[simp ↓] theorem wp_bind {x : R α} {f : α → Env → R β} {P : β → Env → Prop} : (x.bind f).wp P = x.wp fun a ρ1 => (f a ρ1).wp P := by cases x <;> simp only [wp_ok, wp_no, wp_ex, R.bind]
@[simp ↓] theorem owp_some {a : α} {P : α → Prop} : owp (some a) P = P a := by unfold owp; rfl
@[simp ↓] theorem owp_none {P : α → Prop} : owp (none : Option α) P = False := by unfold owp; rfl
@[simp ↓] theorem wp_lift {o : Option α} {f : α → R β} {P : β → Env → Prop} : (lift o f).wp P = owp o fun a => (f a).wp P := by cases o <;> simp only [lift, owp_some, owp_none, wp_no]
@[simp ↓] theorem owp_map {x : Option α} {f : α → β} {P : β → Prop} : owp (x.map f) P = owp x fun a => P (f a) := by cases x <;> simp only [Option.map_some, Option.map_none, owp_some, owp_none]
@[simp ↓] theorem owp_ite {c : Prop} [Decidable c] {a b : Option α} {P : α → Prop} : owp (if c then a else b) P = if c then owp a P else owp b P := by split <;> simp
@[simp ↓] theorem fwp_ret {fr : Bool} {d : D} {o : List D} {P : Bool → D → List D → Prop} : (FR.ret fr d o).wp P = P fr d o := by unfold FR.wp; rfl
@[simp ↓] theorem fwp_no {P : Bool → D → List D → Prop} : (FR.no).wp P = False := by unfold FR.wp; rfl
@[simp ↓] theorem fwp_ex {P : Bool → D → List D → Prop} {e : D} {o : List D} : (FR.ex e o).wp P = False := by unfold FR.wp; rfl
/-! ### slots -/
@[simp] theorem getS_0 {s : Option SV} : getS (s :: ρ) 0 = s := by cases s <;> rfl
@[simp] theorem getS_s {s : Option SV} {i : Nat} : getS (s :: ρ) (i + 1) = getS ρ i := rfl
@[irreducible] def vwp (s : Option SV) (i : Nat) (ρ : Env) (Q : OV → Env → Prop) (_ : Tag Q := .mk) : Prop := match s with
  | some (.val d) => Q (.val d) ρ
  | some _ => Q (.slot i) ρ
  | none => False
@[simp ↓] theorem vwp_n {i : Nat} : vwp none i ρ Q = False := by unfold vwp; rfl
@[simp ↓] theorem vwp_v {d : D} {i : Nat} : vwp (some (.val d)) i ρ Q = Q (.val d) ρ := by unfold vwp; rfl
@[simp ↓] theorem vwp_o {d : D} {i : Nat} : vwp (some (.own d)) i ρ Q = Q (.slot i) ρ := by unfold vwp; rfl
@[simp ↓] theorem vwp_b {d : D} {i : Nat} : vwp (some (.bor d)) i ρ Q = Q (.slot i) ρ := by unfold vwp; rfl
/-! ### expressions -/
@[simp ↓] theorem wp_eC {d : D} : (eC d ρ).wp Q = Q (.val d) ρ := wp_ok
@[simp ↓] theorem wp_eNo : (eNo ρ).wp Q = False := wp_no
@[simp ↓] theorem wp_eVar {i : Nat} : (eVar i ρ).wp Q = vwp (getS ρ i) i ρ Q := by
  unfold eVar; cases getS ρ i with
  | none => simp
  | some s => cases s <;> simp
@[simp ↓] theorem wp_eKeep {m : ME} : (eKeep m ρ).wp Q = (m ρ).wp fun o ρ1 => owp (keepO ρ1 o) fun p => Q (.val p.1) p.2 := by unfold eKeep; repeat (first | rfl | exact wp_ok | exact wp_bind | exact wp_lift | (rw [wp_bind]; refine R.wp_ext fun _ _ => ?_) | (rw [wp_lift]; refine owp_ext fun _ => ?_))
@[simp] theorem keep_val {d : D} : keepO ρ (.val d) = some (d, ρ) := rfl
@[simp] theorem keep_fresh {d : D} : keepO ρ (.fresh d) = some (d, ρ) := rfl
def kwp (s : Option SV) (i : Nat) (ρ : Env) : Option (D × Env) := match s with
  | some (.val d) => some (d, ρ)
  | some (.own c) => some (c, ρ.set i (some (.val c)))
  | _ => none
@[simp] theorem keep_slot {i : Nat} : keepO ρ (.slot i) = kwp (getS ρ i) i ρ := by unfold keepO kwp; rfl
@[simp] theorem kwp_v {d : D} {i : Nat} : kwp (some (.val d)) i ρ = some (d, ρ) := rfl
@[simp] theorem kwp_o {d : D} {i : Nat} : kwp (some (.own d)) i ρ = some (d, ρ.set i (some (.val d))) := rfl
@[simp ↓] theorem wp_evU0 : (evU [] ρ).wp Ql = Ql [] ρ := wp_ok
@[simp ↓] theorem wp_evU1 {m : ME} {ms : List ME} : (evU (m :: ms) ρ).wp Ql = (m ρ).wp fun o ρ1 => (evU ms ρ1).wp fun os ρ2 => Ql (o :: os) ρ2 := by simp only [evU]; repeat (first | rfl | exact wp_ok | exact wp_bind | exact wp_lift | (rw [wp_bind]; refine R.wp_ext fun _ _ => ?_) | (rw [wp_lift]; refine owp_ext fun _ => ?_))
@[simp] theorem getOs_0 : getOs ρ [] = some [] := rfl
@[simp] theorem getOs_1 {o : OV} {os : List OV} : getOs ρ (o :: os) = (getO ρ o).bind fun d => (getOs ρ os).map (d :: ·) := by
  simp only [getOs]; cases getO ρ o with
  | none => rfl
  | some d => cases getOs ρ os <;> rfl
@[simp] theorem getO_v {d : D} : getO ρ (.val d) = some d := rfl
@[simp] theorem getO_f {d : D} : getO ρ (.fresh d) = some d := rfl
@[simp] theorem getO_s {i : Nat} : getO ρ (.slot i) = (getS ρ i).map SV.d := rfl
@[simp] theorem sv_d1 {d : D} : (SV.val d).d = d := rfl
@[simp] theorem sv_d2 {d : D} : (SV.own d).d = d := rfl
@[simp] theorem sv_d3 {d : D} : (SV.bor d).d = d := rfl
@[simp ↓] theorem wp_eOp {f : List D → Option RV} {ms : List ME} : (eOp f ms ρ).wp Q = (evU ms ρ).wp fun os ρ1 => owp (getOs ρ1 os) fun ds => owp (f ds) fun r => Q r.ov ρ1 := by unfold eOp; repeat (first | rfl | exact wp_ok | exact wp_bind | exact wp_lift | (rw [wp_bind]; refine R.wp_ext fun _ _ => ?_) | (rw [wp_lift]; refine owp_ext fun _ => ?_))
@[simp] theorem rv_v {d : D} : (RV.val d).ov = .val d := rfl
@[simp] theorem rv_f {d : D} : (RV.fresh d).ov = .fresh d := rfl
@[simp ↓] theorem wp_eTup {ms : List ME} : (eTup ms ρ).wp Q = (evU (ms.map eKeep) ρ).wp fun os ρ1 => owp (getOs ρ1 os) fun ds => if ds.length ≤ cap then Q (.val (.tup ds)) ρ1 else False := by
  unfold eTup; rw [wp_eOp]; refine R.wp_ext fun os ρ1 => owp_ext fun ds => ?_; split <;> simp
@[simp ↓] theorem wp_eLst {ms : List ME} : (eLst ms ρ).wp Q = (evU (ms.map eKeep) ρ).wp fun os ρ1 => owp (getOs ρ1 os) fun ds => if ds.length ≤ cap then Q (.fresh (.lst ds)) ρ1 else False := by
  unfold eLst; rw [wp_eOp]; refine R.wp_ext fun os ρ1 => owp_ext fun ds => ?_; split <;> simp
@[simp ↓] theorem wp_eIf {t : MT} {a b : ME} : (eIf t a b ρ).wp Q = (t ρ).wp fun k ρ1 => if k then (a ρ1).wp Q else (b ρ1).wp Q := by
  unfold eIf; rw [wp_bind]; exact R.wp_ext fun k ρ1 => by cases k <;> first | rfl | simp
@[simp ↓] theorem wp_eAnd {a b : ME} : (eAnd a b ρ).wp Q = (a ρ).wp fun o ρ1 => owp (getO ρ1 o) fun d => owp (getB d) fun k => if k then (b ρ1).wp Q else Q (.val (.bl false)) ρ1 := by
  unfold eAnd; rw [wp_bind]; refine R.wp_ext fun o ρ1 => ?_; rw [wp_lift]; refine owp_ext fun d => ?_; rw [wp_lift]; exact owp_ext fun k => by cases k <;> first | rfl | simp
@[simp ↓] theorem wp_eOr {a b : ME} : (eOr a b ρ).wp Q = (a ρ).wp fun o ρ1 => owp (getO ρ1 o) fun d => owp (getB d) fun k => if k then Q (.val (.bl true)) ρ1 else (b ρ1).wp Q := by
  unfold eOr; rw [wp_bind]; refine R.wp_ext fun o ρ1 => ?_; rw [wp_lift]; refine owp_ext fun d => ?_; rw [wp_lift]; exact owp_ext fun k => by cases k <;> first | rfl | simp
@[simp] theorem getB_bl {b : Bool} : getB (.bl b) = some b := rfl
@[simp ↓] theorem wp_eNot {a : ME} : (eNot a ρ).wp Q = (a ρ).wp fun o ρ1 => owp (getO ρ1 o) fun d => owp (getB d) fun k => Q (.val (.bl (!k))) ρ1 := by
  unfold eNot; rw [wp_eOp, wp_evU1]; refine R.wp_ext fun o ρ1 => ?_; rw [wp_evU0]
  cases e : getO ρ1 o with
  | none => simp [e]
  | some d => simp only [getOs_1, e, getOs_0]; cases d <;> simp [getB]
/-! ### tests -/
@[simp ↓] theorem wp_tOf {m : ME} : (tOf m ρ).wp Qb = (m ρ).wp fun o ρ1 => owp (getO ρ1 o) fun d => owp (truth d) fun b => Qb b ρ1 := by unfold tOf; repeat (first | rfl | exact wp_ok | exact wp_bind | exact wp_lift | (rw [wp_bind]; refine R.wp_ext fun _ _ => ?_) | (rw [wp_lift]; refine owp_ext fun _ => ?_))
@[simp ↓] theorem wp_tNot {t : MT} : (tNot t ρ).wp Qb = (t ρ).wp fun b ρ1 => Qb (!b) ρ1 := by unfold tNot; repeat (first | rfl | exact wp_ok | exact wp_bind | exact wp_lift | (rw [wp_bind]; refine R.wp_ext fun _ _ => ?_) | (rw [wp_lift]; refine owp_ext fun _ => ?_))
@[simp ↓] theorem wp_tAnd {t u : MT} : (tAnd t u ρ).wp Qb = (t ρ).wp fun b ρ1 => if b then (u ρ1).wp Qb else Qb false ρ1 := by
  unfold tAnd; rw [wp_bind]; exact R.wp_ext fun k ρ1 => by cases k <;> first | rfl | simp
@[simp ↓] theorem wp_tOr {t u : MT} : (tOr t u ρ).wp Qb = (t ρ).wp fun b ρ1 => if b then Qb true ρ1 else (u ρ1).wp Qb := by
  unfold tOr; rw [wp_bind]; exact R.wp_ext fun k ρ1 => by cases k <;> first | rfl | simp
@[simp ↓] theorem wp_tYes : (tYes ρ).wp Qb = Qb true ρ := wp_ok
@[simp] theorem truth_bl {b : Bool} : truth (.bl b) = some b := rfl
@[simp] theorem truth_non : truth .non = some false := rfl
@[simp] theorem truth_int {i : Int} : truth (.int i) = some (i != 0) := rfl
@[simp] theorem truth_lst {xs : List D} : truth (.lst xs) = some (!xs.isEmpty) := rfl
@[simp] theorem truth_tup {xs : List D} : truth (.tup xs) = some (!xs.isEmpty) := rfl
@[simp ↓] theorem wp_eChain {f f' : List D → Option RV} {a b c : ME} : (eChain f f' a b c ρ).wp Q = (evU [a, b] ρ).wp fun os ρ1 => owp (twoV os) fun p => owp (getO ρ1 p.1) fun da => owp (asB (f [da, p.2])) fun k => if k then (c ρ1).wp fun o ρ2 => owp (getO ρ2 o) fun dc => owp (asB (f' [p.2, dc])) fun k' => Q (.val (.bl k')) ρ2 else Q (.val (.bl false)) ρ1 := by
  unfold eChain; rw [wp_bind]; refine R.wp_ext fun os ρ1 => ?_; rw [wp_lift]; refine owp_ext fun p => ?_; rw [wp_lift]; refine owp_ext fun da => ?_; rw [wp_lift]; refine owp_ext fun k => ?_
  cases k with
  | false => simp
  | true => simp only [if_true]; repeat (first | rfl | exact wp_ok | exact wp_bind | exact wp_lift | (rw [wp_bind]; refine R.wp_ext fun _ _ => ?_) | (rw [wp_lift]; refine owp_ext fun _ => ?_))
@[simp] theorem twoV_v {o : OV} {d : D} : twoV [o, .val d] = some (o, d) := rfl
@[simp] theorem asB_v {b : Bool} : asB (some (.val (.bl b))) = some b := rfl
/-! ### slices -/
@[simp ↓] theorem wp_evP0 {Q : Option Int → Env → Prop} : (evP none ρ).wp Q = Q none ρ := wp_ok
@[simp ↓] theorem wp_evP1 {m : ME} {Q : Option Int → Env → Prop} : (evP (some m) ρ).wp Q = (m ρ).wp fun o ρ1 => owp (asI o) fun i => Q (some i) ρ1 := by simp only [evP]; repeat (first | rfl | exact wp_ok | exact wp_bind | exact wp_lift | (rw [wp_bind]; refine R.wp_ext fun _ _ => ?_) | (rw [wp_lift]; refine owp_ext fun _ => ?_))
@[simp] theorem asI_v {i : Int} : asI (.val (.int i)) = some i := rfl
@[simp ↓] theorem wp_eSl {a : ME} {l h : Option ME} : (eSl a l h ρ).wp Q = (a ρ).wp fun o ρ1 => (evP l ρ1).wp fun i ρ2 => (evP h ρ2).wp fun j ρ3 => owp (getO ρ3 o) fun d => owp (slD i j d) fun r => Q r.ov ρ3 := by unfold eSl; repeat (first | rfl | exact wp_ok | exact wp_bind | exact wp_lift | (rw [wp_bind]; refine R.wp_ext fun _ _ => ?_) | (rw [wp_lift]; refine owp_ext fun _ => ?_))
/-! ### statements -/
@[simp ↓] theorem wp_sSeq {a b : MS} : (sSeq a b ρ).wp Qf = (a ρ).wp fun f ρ1 => match f with | .nx => (b ρ1).wp Qf | f => Qf f ρ1 := by
  unfold sSeq; rw [wp_bind]; exact R.wp_ext fun k ρ1 => by cases k <;> first | rfl | simp
@[simp ↓] theorem wp_sNil : (sNil ρ).wp Qf = Qf .nx ρ := wp_ok
@[simp ↓] theorem wp_sStop : (sStop ρ).wp Qf = False := wp_no
@[simp ↓] theorem wp_sBrk : (sBrk ρ).wp Qf = Qf .bk ρ := wp_ok
@[simp ↓] theorem wp_sCnt : (sCnt ρ).wp Qf = Qf .ct ρ := wp_ok
@[simp ↓] theorem wp_sExp {m : ME} : (sExp m ρ).wp Qf = (m ρ).wp fun _ ρ1 => Qf .nx ρ1 := by unfold sExp; repeat (first | rfl | exact wp_ok | exact wp_bind | exact wp_lift | (rw [wp_bind]; refine R.wp_ext fun _ _ => ?_) | (rw [wp_lift]; refine owp_ext fun _ => ?_))
@[simp ↓] theorem wp_sRet {m : ME} : (sRet m ρ).wp Qf = (m ρ).wp fun o ρ1 => Qf (.rt o) ρ1 := by unfold sRet; repeat (first | rfl | exact wp_ok | exact wp_bind | exact wp_lift | (rw [wp_bind]; refine R.wp_ext fun _ _ => ?_) | (rw [wp_lift]; refine owp_ext fun _ => ?_))
@[simp ↓] theorem wp_sIf {t : MT} {a b : MS} : (sIf t a b ρ).wp Qf = (t ρ).wp fun k ρ1 => if k then (a ρ1).wp Qf else (b ρ1).wp Qf := by
  unfold sIf; rw [wp_bind]; exact R.wp_ext fun k ρ1 => by cases k <;> first | rfl | simp
@[simp ↓] theorem wp_sSet {i : Nat} {m : ME} : (sSet i m ρ).wp Qf = (m ρ).wp fun o ρ1 => owp (putS i o ρ1) fun ρ2 => Qf .nx ρ2 := by unfold sSet; repeat (first | rfl | exact wp_ok | exact wp_bind | exact wp_lift | (rw [wp_bind]; refine R.wp_ext fun _ _ => ?_) | (rw [wp_lift]; refine owp_ext fun _ => ?_))
/-- what may stand in a slot that is stored -/
def okS : Option SV → Bool
  | some (.bor _) => false
  | _ => true
@[simp] theorem okS_n : okS none = true := rfl
@[simp] theorem okS_v {d : D} : okS (some (.val d)) = true := rfl
@[simp] theorem okS_o {d : D} : okS (some (.own d)) = true := rfl
theorem putS_val {i : Nat} {d : D} : putS i (.val d) ρ = match ρ[i]? with | some s => if okS s then some (ρ.set i (some (.val d))) else none | none => none := by
  unfold putS; split <;> simp_all [okS]
theorem putS_fresh {i : Nat} {d : D} : putS i (.fresh d) ρ = match ρ[i]? with | some s => if okS s then some (ρ.set i (some (.own d))) else none | none => none := by
  unfold putS; split <;> simp_all [okS]
theorem putS_slot {i j : Nat} : putS i (.slot j) ρ = match ρ[i]? with | some s => if okS s then (kwp (getS ρ j) j ρ).map (fun p => p.2.set i (some (.val p.1))) else none | none => none := by
  unfold putS; split <;> simp_all [okS]
  · split <;> simp_all
@[simp ↓] theorem wp_sParN {is : List Nat} {ms : List ME} : (sParN is ms ρ).wp Qf = (evU ms ρ).wp fun os ρ1 => if noSlot os then owp (putSs is os ρ1) fun ρ2 => Qf .nx ρ2 else False := by
  unfold sParN; rw [wp_bind]; refine R.wp_ext fun os ρ1 => ?_
  cases noSlot os with
  | false => simp
  | true => simp only [if_true]; repeat (first | rfl | exact wp_ok | exact wp_bind | exact wp_lift | (rw [wp_bind]; refine R.wp_ext fun _ _ => ?_) | (rw [wp_lift]; refine owp_ext fun _ => ?_))
@[simp] theorem putSs_0 : putSs [] [] ρ = some ρ := rfl
@[simp] theorem putSs_1 {i : Nat} {is : List Nat} {o : OV} {os : List OV} : putSs (i :: is) (o :: os) ρ = (putSs is os ρ).bind fun ρ1 => putS i o ρ1 := by
  simp only [putSs]; cases putSs is os ρ <;> rfl
@[simp ↓] theorem wp_sUnp {k : Tg} {m : ME} : (sUnp k m ρ).wp Qf = (eKeep m ρ).wp fun o ρ1 => owp (asV o) fun d => owp (k.put d ρ1) fun ρ2 => Qf .nx ρ2 := by unfold sUnp; repeat (first | rfl | exact wp_ok | exact wp_bind | exact wp_lift | (rw [wp_bind]; refine R.wp_ext fun _ _ => ?_) | (rw [wp_lift]; refine owp_ext fun _ => ?_))
@[simp] theorem asV_v {d : D} : asV (.val d) = some d := rfl
/-- a loop over written items -/
@[irreducible] def wFor (g : Tg) (b : MS) (xs : List D) (ρ : Env) (Q : Fl → Env → Prop) (_ : Tag Q := .mk) : Prop := (goFor g b xs ρ).wp Q
@[simp ↓] theorem wp_sFor {g : Tg} {it : MI} {b : MS} : (sFor g it b ρ).wp Qf = (it ρ).wp fun xs ρ1 => wFor g b xs ρ1 Qf := by
  unfold sFor wFor; exact wp_bind
@[simp ↓] theorem wp_iOf {f : List D → Option (List D)} {ms : List ME} : (iOf f ms ρ).wp Qd = (evU (ms.map eKeep) ρ).wp fun os ρ1 => owp (getOs ρ1 os) fun ds => owp (f ds) fun xs => Qd xs ρ1 := by unfold iOf; repeat (first | rfl | exact wp_ok | exact wp_bind | exact wp_lift | (rw [wp_bind]; refine R.wp_ext fun _ _ => ?_) | (rw [wp_lift]; refine owp_ext fun _ => ?_))
@[simp ↓] theorem wp_for0 {g : Tg} {b : MS} : wFor g b [] ρ Qf = Qf .nx ρ := by unfold wFor; simp only [goFor]; rw [wp_ok]
theorem wp_for1 {g : Tg} {b : MS} {d : D} {ds : List D} : wFor g b (d :: ds) ρ Qf = owp (g.put d ρ) fun ρ1 => (b ρ1).wp fun f ρ2 => match f with
    | .nx => wFor g b ds ρ2 Qf | .ct => wFor g b ds ρ2 Qf | .bk => Qf .nx ρ2 | .rt o => Qf (.rt o) ρ2 := by
  unfold wFor; simp only [goFor]; rw [wp_lift]; refine owp_ext fun ρ1 => ?_; rw [wp_bind]; exact R.wp_ext fun f ρ2 => by cases f <;> first | rfl | exact wp_ok
@[simp ↓] theorem wp_sPutIx {i : Nat} {mi mv : ME} : (sPutIx i mi mv ρ).wp Qf = (eKeep mv ρ).wp fun o ρ1 => owp (asV o) fun d => owp (getM ρ1 i) fun _ => (mi ρ1).wp fun k ρ2 => owp (asV k) fun z => owp (getM ρ2 i) fun c => owp (setAtD c z d) fun c' => owp (putOut (.slot i) c' ρ2) fun ρ3 => Qf .nx ρ3 := by unfold sPutIx; repeat (first | rfl | exact wp_ok | exact wp_bind | exact wp_lift | (rw [wp_bind]; refine R.wp_ext fun _ _ => ?_) | (rw [wp_lift]; refine owp_ext fun _ => ?_))
@[simp ↓] theorem wp_sPutF {fl : List (Str × Str)} {i : Nat} {f : Str} {mv : ME} : (sPutF fl i f mv ρ).wp Qf = (eKeep mv ρ).wp fun o ρ1 => owp (asV o) fun d => owp (getM ρ1 i) fun c => owp (setF fl f d c) fun c' => owp (putOut (.slot i) c' ρ1) fun ρ2 => Qf .nx ρ2 := by unfold sPutF; repeat (first | rfl | exact wp_ok | exact wp_bind | exact wp_lift | (rw [wp_bind]; refine R.wp_ext fun _ _ => ?_) | (rw [wp_lift]; refine owp_ext fun _ => ?_))
/-! ### calls -/
@[simp ↓] theorem wp_doCall {f : FunSem} {os : List OV} : (doCall f os ρ).wp Q = if lentOk f.modes os [] then owp (getOs ρ os) fun ds => (f.run ds).wp fun fr d outs => owp (putOuts f.modes os outs ρ) fun ρ2 => Q (match fr with | true => .fresh d | false => .val d) ρ2 else False := by
  unfold doCall; split
  · rw [wp_lift]; refine owp_ext fun ds => ?_
    cases f.run ds with
    | ret fr d outs => simp only [fwp_ret]; rw [wp_lift]; exact owp_ext fun ρ2 => wp_ok
    | ex e outs => simp only [fwp_ex]; rw [wp_lift]; cases putOuts f.modes os outs ρ <;> simp
    | no => simp
  · simp
@[simp ↓] theorem wp_eCall {f : FunSem} {ms : List ME} : (eCall f ms ρ).wp Q = (evU ms ρ).wp fun os ρ1 => (doCall f os ρ1).wp Q := by unfold eCall; repeat (first | rfl | exact wp_ok | exact wp_bind | exact wp_lift | (rw [wp_bind]; refine R.wp_ext fun _ _ => ?_) | (rw [wp_lift]; refine owp_ext fun _ => ?_))
@[simp ↓] theorem wp_eCallK {f : FunSem} {ms : List ME} {ps : List Pm} : (eCallK f ms ps ρ).wp Q = (evU ms ρ).wp fun os ρ1 => if noFresh os then owp (pick os ps) fun os' => (doCall f os' ρ1).wp Q else False := by
  unfold eCallK; rw [wp_bind]; refine R.wp_ext fun os ρ1 => ?_
  cases noFresh os with
  | false => simp
  | true => simp only [if_true]; repeat (first | rfl | exact wp_ok | exact wp_bind | exact wp_lift | (rw [wp_bind]; refine R.wp_ext fun _ _ => ?_) | (rw [wp_lift]; refine owp_ext fun _ => ?_))
end
end RF
end
section
/-! RV: values, loops, comprehensions. -/
namespace RF
open PySem L2
/-! ### a def run -/
@[simp ↓] theorem run_wp {n : Nat} {modes : List Bool} {m : MS} {ds : List D} {Q : Bool → D → List D → Prop} : ((mkFun n modes m).run ds).wp Q = if ds.length = modes.length then (m (startE modes ds ++ List.replicate (n - ds.length) none)).wp fun fl ρ => owp (retOf fl ρ) fun p => owp (outsOf modes ρ) fun outs => Q p.1 p.2 outs else False := by
  unfold mkFun
  simp only
  split
  · cases m (startE modes ds ++ List.replicate (n - ds.length) none) with
    | no => simp [finish]
    | ex e ρ => simp only [finish, wp_ex]; split <;> simp
    | ok f ρ =>
      simp only [finish, wp_ok]
      cases retOf f ρ with
      | none => simp
      | some p => obtain ⟨a, b⟩ := p; simp only [owp_some]; cases outsOf modes ρ <;> simp
  · simp
@[simp] theorem mk_modes {n : Nat} {modes : List Bool} {m : MS} : (mkFun n modes m).modes = modes := rfl
theorem FR.eq_of {x : FR} {fr : Bool} {d : D} {o : List D} (h : x.wp fun a b c => a = fr ∧ b = d ∧ c = o) : x = .ret fr d o := by
  cases x with
  | ret a b c => rw [fwp_ret] at h; obtain ⟨rfl, rfl, rfl⟩ := h; rfl
  | ex _ _ => rw [fwp_ex] at h; exact h.elim
  | no => rw [fwp_no] at h; exact h.elim
theorem FR.to_wp {x : FR} {Q : Bool → D → List D → Prop} {fr : Bool} {d : D} {o : List D} (e : x = .ret fr d o) (q : Q fr d o) : x.wp Q := by rw [e, fwp_ret]; exact q
@[simp] theorem start_0 {ms : List Bool} : startE ms [] = [] := by cases ms <;> rfl
@[simp] theorem start_f {ms : List Bool} {d : D} {ds : List D} : startE (false :: ms) (d :: ds) = some (.val d) :: startE ms ds := rfl
@[simp] theorem start_t {ms : List Bool} {d : D} {ds : List D} : startE (true :: ms) (d :: ds) = some (.bor d) :: startE ms ds := rfl
@[simp] theorem ret_nx {ρ : Env} : retOf .nx ρ = some (false, .non) := rfl
@[simp] theorem ret_v {ρ : Env} {d : D} : retOf (.rt (.val d)) ρ = some (false, d) := rfl
@[simp] theorem ret_f {ρ : Env} {d : D} : retOf (.rt (.fresh d)) ρ = some (true, d) := rfl
def rwp (s : Option SV) : Option (Bool × D) := match s with
  | some (.val d) => some (false, d)
  | some (.own c) => some (true, c)
  | _ => none
@[simp] theorem ret_s {ρ : Env} {i : Nat} : retOf (.rt (.slot i)) ρ = rwp (getS ρ i) := rfl
@[simp] theorem rwp_v {d : D} : rwp (some (.val d)) = some (false, d) := rfl
@[simp] theorem rwp_o {d : D} : rwp (some (.own d)) = some (true, d) := rfl
@[simp] theorem outs_0 {ρ : Env} : outsOf [] ρ = some [] := rfl
@[simp] theorem outs_f {ms : List Bool} {s : Option SV} {ρ : Env} : outsOf (false :: ms) (s :: ρ) = outsOf ms ρ := rfl
@[simp] theorem outs_t {ms : List Bool} {c : D} {ρ : Env} : outsOf (true :: ms) (some (.bor c) :: ρ) = (outsOf ms ρ).map (c :: ·) := rfl
/-! ### lent things -/
@[simp] theorem lent_0 {l : List Nat} : lentOk [] [] l = true := rfl
@[simp] theorem lent_f {ms : List Bool} {d : D} {os : List OV} {l : List Nat} : lentOk (false :: ms) (.val d :: os) l = lentOk ms os l := rfl
@[simp] theorem lent_s {ms : List Bool} {i : Nat} {os : List OV} {l : List Nat} : lentOk (true :: ms) (.slot i :: os) l = (!l.contains i && lentOk ms os (i :: l)) := rfl
@[simp] theorem lent_n {ms : List Bool} {d : D} {os : List OV} {l : List Nat} : lentOk (true :: ms) (.fresh d :: os) l = lentOk ms os l := rfl
@[simp] theorem pos_0 {ρ : Env} : putOuts [] [] [] ρ = some ρ := rfl
@[simp] theorem pos_f {ms : List Bool} {o : OV} {os : List OV} {cs : List D} {ρ : Env} : putOuts (false :: ms) (o :: os) cs ρ = putOuts ms os cs ρ := rfl
@[simp] theorem pos_t {ms : List Bool} {o : OV} {os : List OV} {c : D} {cs : List D} {ρ : Env} : putOuts (true :: ms) (o :: os) (c :: cs) ρ = (putOut o c ρ).bind fun ρ1 => putOuts ms os cs ρ1 := by
  simp only [putOuts]; cases putOut o c ρ <;> rfl
@[simp] theorem po_f {d c : D} {ρ : Env} : putOut (.fresh d) c ρ = some ρ := rfl
def pwp (s : Option SV) (i : Nat) (c : D) (ρ : Env) : Option Env := match s with
  | some (.own _) => some (ρ.set i (some (.own c)))
  | some (.bor _) => some (ρ.set i (some (.bor c)))
  | _ => none
@[simp] theorem po_s {i : Nat} {c : D} {ρ : Env} : putOut (.slot i) c ρ = pwp (getS ρ i) i c ρ := rfl
@[simp] theorem pwp_o {i : Nat} {c d : D} {ρ : Env} : pwp (some (.own d)) i c ρ = some (ρ.set i (some (.own c))) := rfl
@[simp] theorem pwp_b {i : Nat} {c d : D} {ρ : Env} : pwp (some (.bor d)) i c ρ = some (ρ.set i (some (.bor c))) := rfl
def mwp (s : Option SV) : Option D := match s with
  | some (.own c) => some c
  | some (.bor c) => some c
  | _ => none
@[simp] theorem getM_s {i : Nat} {ρ : Env} : getM ρ i = mwp (getS ρ i) := rfl
@[simp] theorem mwp_o {d : D} : mwp (some (.own d)) = some d := rfl
@[simp] theorem mwp_b {d : D} : mwp (some (.bor d)) = some d := rfl
@[simp] theorem nf_0 : noFresh [] = true := rfl
@[simp] theorem nf_v {d : D} {os : List OV} : noFresh (.val d :: os) = noFresh os := rfl
@[simp] theorem nf_s {i : Nat} {os : List OV} : noFresh (.slot i :: os) = noFresh os := rfl
@[simp] theorem ns_0 : noSlot [] = true := rfl
@[simp] theorem ns_v {d : D} {os : List OV} : noSlot (.val d :: os) = noSlot os := rfl
@[simp] theorem ns_f {d : D} {os : List OV} : noSlot (.fresh d :: os) = noSlot os := rfl
@[simp] theorem pick_0 {os : List OV} : pick os [] = some [] := rfl
@[simp] theorem pick_a {os : List OV} {i : Nat} {ps : List Pm} : pick os (.arg i :: ps) = (os[i]?).bind fun o => (pick os ps).map (o :: ·) := by
  simp only [pick]; cases os[i]? <;> rfl
@[simp] theorem pick_d {os : List OV} {d : D} {ps : List Pm} : pick os (.dft d :: ps) = (pick os ps).map (.val d :: ·) := rfl
@[simp] theorem tg_nm {i : Nat} {d : D} {ρ : Env} : (Tg.nm i).put d ρ = putS i (.val d) ρ := rfl
@[simp] theorem tg_tp {is : List Nat} {ds : List D} {ρ : Env} : (Tg.tp is).put (.tup ds) ρ = putVs is ds ρ := rfl
@[simp] theorem pvs_0 {ρ : Env} : putVs [] [] ρ = some ρ := rfl
@[simp] theorem pvs_1 {i : Nat} {is : List Nat} {d : D} {ds : List D} {ρ : Env} : putVs (i :: is) (d :: ds) ρ = (putS i (.val d) ρ).bind fun ρ1 => putVs is ds ρ1 := by
  simp only [putVs, putV]; cases putS i (.val d) ρ <;> rfl
/-! ### operators -/
@[simp] theorem add_ii {i j : Int} : addD [.int i, .int j] = some (.val (.int (i + j))) := rfl
@[simp] theorem sub_ii {i j : Int} : subD [.int i, .int j] = some (.val (.int (i - j))) := rfl
@[simp] theorem neg_i {i : Int} : negD [.int i] = some (.val (.int (-i))) := rfl
@[simp] theorem mod_ii {i j : Int} : modD [.int i, .int j] = if 0 < j then some (.val (.int (i % j))) else none := rfl
@[simp] theorem fdiv_ii {i j : Int} : fdivD [.int i, .int j] = if 0 < j ∧ j < 1073741824 then some (.val (.int (i / j))) else none := rfl
@[simp] theorem mul_ii {i j : Int} : mulD [.int i, .int j] = if small64i i || small64i j || wideB i j then some (.val (.int (i * j))) else none := rfl
theorem small_of {i : Int} (h1 : -18446744073709551616 < i) (h2 : i < 18446744073709551616) : small64i i = true := by
  unfold small64i; simp; omega
@[simp] theorem pow_ii {i j : Int} : powD [.int i, .int j] = if 0 ≤ j ∧ j ≤ 1000 ∧ i.natAbs < 2 ^ 64 then some (.val (.int (i ^ j.toNat))) else none := rfl
@[simp] theorem add_ss {x y : Str} : addD [.str x, .str y] = if x.length + y.length ≤ cap then some (.val (.str (x ++ y))) else none := rfl
@[simp] theorem add_ll {x y : List D} : addD [.lst x, .lst y] = if x.length + y.length ≤ cap then some (.fresh (.lst (x ++ y))) else none := rfl
@[simp] theorem add_tt {x y : List D} : addD [.tup x, .tup y] = if x.length + y.length ≤ cap then some (.val (.tup (x ++ y))) else none := rfl
@[simp] theorem len_s {s : Str} : lenD [.str s] = some (.val (.int s.length)) := rfl
@[simp] theorem len_l {s : List D} : lenD [.lst s] = some (.val (.int s.length)) := rfl
@[simp] theorem len_t {s : List D} : lenD [.tup s] = some (.val (.int s.length)) := rfl
@[simp] theorem lt_ii {i j : Int} : ltD [.int i, .int j] = some (.val (.bl (decide (i < j)))) := rfl
@[simp] theorem le_ii {i j : Int} : leD [.int i, .int j] = some (.val (.bl (decide (i ≤ j)))) := rfl
@[simp] theorem gt_ii {i j : Int} : gtD [.int i, .int j] = some (.val (.bl (decide (j < i)))) := rfl
@[simp] theorem ge_ii {i j : Int} : geD [.int i, .int j] = some (.val (.bl (decide (j ≤ i)))) := rfl
@[simp] theorem max_ii {i j : Int} : maxD [.int i, .int j] = some (.val (.int (if j > i then j else i))) := rfl
@[simp] theorem min_ii {i j : Int} : minD [.int i, .int j] = some (.val (.int (if j < i then j else i))) := rfl
@[simp] theorem ix_l {xs : List D} {i : Int} : ixD [.lst xs, .int i] = (atI xs i).map RV.val := rfl
@[simp] theorem ix_t {xs : List D} {i : Int} : ixD [.tup xs, .int i] = (atI xs i).map RV.val := rfl
@[simp] theorem ix_s {z : Str} {i : Int} : ixD [.str z, .int i] = (atI z.cps.toList i).map fun c => RV.val (.str ⟨#[c]⟩) := rfl
@[simp] theorem list_l {xs : List D} : listD [.lst xs] = some (.fresh (.lst xs)) := rfl
@[simp] theorem list_t {xs : List D} : listD [.tup xs] = some (.fresh (.lst xs)) := rfl
@[simp] theorem list_s {s : Str} : listD [.str s] = some (.fresh (.lst (s.cps.toList.map fun c => .str ⟨#[c]⟩))) := rfl
@[simp] theorem tuple_l {xs : List D} : tupleD [.lst xs] = some (.val (.tup xs)) := rfl
@[simp] theorem tuple_t {xs : List D} : tupleD [.tup xs] = some (.val (.tup xs)) := rfl
@[simp] theorem all_l {xs : List D} : allD [.lst xs] = (bls xs).map fun bs => .val (.bl (bs.all id)) := rfl
@[simp] theorem any_l {xs : List D} : anyD [.lst xs] = (bls xs).map fun bs => .val (.bl (bs.any id)) := rfl
theorem bls_map {bs : List Bool} : bls (bs.map D.bl) = some bs := by
  induction bs with
  | nil => rfl
  | cons b bs ih => simp [bls, ih]
theorem bls_fun {α : Type} {xs : List α} {f : α → Bool} : bls (xs.map fun x => D.bl (f x)) = some (xs.map f) := by
  induction xs with
  | nil => rfl
  | cons b bs ih => simp [bls, ih]
theorem beq_dec {α : Type} [BEq α] [LawfulBEq α] [DecidableEq α] {i j : α} : (i == j) = decide (i = j) := Bool.eq_iff_iff.mpr (by simp)
@[simp] theorem eq_ii {i j : Int} : eqD [.int i, .int j] = some (.val (.bl (decide (i = j)))) := by simp [eqD, plain, dep, eqb, beq_dec]
@[simp] theorem ne_ii {i j : Int} : neD [.int i, .int j] = some (.val (.bl (!decide (i = j)))) := by simp [neD, plain, dep, eqb, beq_dec]
@[simp] theorem eq_ss {i j : Str} : eqD [.str i, .str j] = some (.val (.bl (decide (i = j)))) := by simp [eqD, plain, dep, eqb, beq_dec]
@[simp] theorem ne_ss {i j : Str} : neD [.str i, .str j] = some (.val (.bl (!decide (i = j)))) := by simp [neD, plain, dep, eqb, beq_dec]
@[simp] theorem eq_bb {i j : Bool} : eqD [.bl i, .bl j] = some (.val (.bl (i == j))) := by simp [eqD, plain, dep, eqb]
@[simp] theorem seq_l {xs : List D} : seqI [.lst xs] = some xs := rfl
@[simp] theorem seq_t {xs : List D} : seqI [.tup xs] = some xs := rfl
@[simp] theorem seq_s {s : Str} : seqI [.str s] = some (s.cps.toList.map fun c => .str ⟨#[c]⟩) := rfl
@[simp] theorem rng1 {j : Int} : range1I [.int j] = if -(cap : Int) ≤ j ∧ j ≤ cap then some (rangeD 0 j) else none := rfl
@[simp] theorem rng2 {i j : Int} : range2I [.int i, .int j] = if (-(cap : Int) ≤ i ∧ i ≤ cap) ∧ -(cap : Int) ≤ j ∧ j ≤ cap then some (rangeD i j) else none := rfl
@[simp] theorem enum_l {xs : List D} : enumI [.lst xs] = some (enumD 0 xs) := rfl
@[simp] theorem enum_t {xs : List D} : enumI [.tup xs] = some (enumD 0 xs) := rfl
theorem cap_eq : cap = 1000000 := rfl
@[simp] theorem setAt_l {xs : List D} {z : Int} {d : D} : setAtD (.lst xs) (.int z) d = (ixN xs.length z).map fun j => .lst (xs.set j d) := rfl
@[simp ↓] theorem owp_bind {α β : Type} {x : Option α} {f : α → Option β} {P : β → Prop} : owp (x.bind f) P = owp x fun a => owp (f a) P := by cases x <;> simp
@[simp] theorem sl_l {lo hi : Option Int} {xs : List D} : slD lo hi (.lst xs) = some (.fresh (.lst (cutD xs lo hi))) := rfl
@[simp] theorem sl_t {lo hi : Option Int} {xs : List D} : slD lo hi (.tup xs) = some (.val (.tup (cutD xs lo hi))) := rfl
@[simp] theorem sl_s {lo hi : Option Int} {z : Str} : slD lo hi (.str z) = some (.val (.str (cutS z lo hi))) := rfl
theorem cutD_len {α : Type} {xs : List α} {lo hi : Option Int} : (cutD xs lo hi).length ≤ xs.length := by
  unfold cutD; rw [List.length_take, List.length_drop]; omega
theorem cutD_mem {α : Type} {xs : List α} {lo hi : Option Int} {x : α} (h : x ∈ cutD xs lo hi) : x ∈ xs := List.mem_of_mem_drop (List.mem_of_mem_take h)
theorem cutS_len {z : Str} {lo hi : Option Int} : (cutS z lo hi).length ≤ z.length := by
  have h := cutD_len (xs := z.cps.toList) (lo := lo) (hi := hi)
  unfold cutS Str.length
  unfold cutD at h
  simpa [Str.length] using h
theorem isi_ty {cs fs : List Str} {d : D} {n : String} (hn : n ∈ cNames) : isiD cs fs [d, .ty n] = (kindD cs fs d).map fun k => .val (.bl (match k with | .inl a => subT a n | .inr _ => false)) := by
  have e : isiD cs fs [d, .ty n] = (kindD cs fs d).bind fun k => (isiK cs k (.ty n)).map fun b => .val (.bl b) := rfl
  rw [e]
  cases kindD cs fs d with
  | none => rfl
  | some k => cases k <;> simp [isiK, hn]
/-- things whose kind is known -/
def Kn (cs fs : List Str) (d : D) : Prop := (kindD cs fs d).isSome = true
def isStrD : D → Bool | .str _ => true | _ => false
def isIntD : D → Bool | .int _ => true | .bl _ => true | _ => false
def isBolD : D → Bool | .bl _ => true | _ => false
def isTupD : D → Bool | .tup _ => true | _ => false
def isLstD : D → Bool | .lst _ => true | _ => false
def isDicD : D → Bool | .dic _ _ => true | _ => false
def isObjD (c : Str) : D → Bool | .obj c' _ _ => c' == c | _ => false
section
variable {cs fs : List Str} {d : D}
theorem isi_str (h : Kn cs fs d) : isiD cs fs [d, .ty "str"] = some (.val (.bl (isStrD d))) := by
  rw [isi_ty (by decide)]; unfold Kn at h; cases e : kindD cs fs d with
  | none => rw [e] at h; cases h
  | some k => cases d <;> simp [kindD] at e <;> first | (subst e; decide) | (obtain ⟨_, rfl⟩ := e; first | rfl | decide) | skip
theorem isi_int (h : Kn cs fs d) : isiD cs fs [d, .ty "int"] = some (.val (.bl (isIntD d))) := by
  rw [isi_ty (by decide)]; unfold Kn at h; cases e : kindD cs fs d with
  | none => rw [e] at h; cases h
  | some k => cases d <;> simp [kindD] at e <;> first | (subst e; decide) | (obtain ⟨_, rfl⟩ := e; first | rfl | decide) | skip
theorem isi_bool (h : Kn cs fs d) : isiD cs fs [d, .ty "bool"] = some (.val (.bl (isBolD d))) := by
  rw [isi_ty (by decide)]; unfold Kn at h; cases e : kindD cs fs d with
  | none => rw [e] at h; cases h
  | some k => cases d <;> simp [kindD] at e <;> first | (subst e; decide) | (obtain ⟨_, rfl⟩ := e; first | rfl | decide) | skip
theorem isi_tuple (h : Kn cs fs d) : isiD cs fs [d, .ty "tuple"] = some (.val (.bl (isTupD d))) := by
  rw [isi_ty (by decide)]; unfold Kn at h; cases e : kindD cs fs d with
  | none => rw [e] at h; cases h
  | some k => cases d <;> simp [kindD] at e <;> first | (subst e; decide) | (obtain ⟨_, rfl⟩ := e; first | rfl | decide) | skip
theorem isi_list (h : Kn cs fs d) : isiD cs fs [d, .ty "list"] = some (.val (.bl (isLstD d))) := by
  rw [isi_ty (by decide)]; unfold Kn at h; cases e : kindD cs fs d with
  | none => rw [e] at h; cases h
  | some k => cases d <;> simp [kindD] at e <;> first | (subst e; decide) | (obtain ⟨_, rfl⟩ := e; first | rfl | decide) | skip
theorem isi_obj (h : Kn cs fs d) {c : Str} (hc : c ∈ cs) : isiD cs fs [d, .glo c] = some (.val (.bl (isObjD c d))) := by
  have e : isiD cs fs [d, .glo c] = (kindD cs fs d).bind fun k => (isiK cs k (.glo c)).map fun b => .val (.bl b) := rfl
  rw [e]; unfold Kn at h; cases e : kindD cs fs d with
  | none => rw [e] at h; cases h
  | some k => cases d <;> simp [kindD] at e <;> first | (subst e; simp [isiK, hc, isObjD]) | (obtain ⟨_, rfl⟩ := e; simp [isiK, hc, isObjD]) | skip
@[simp] theorem kn_non : Kn cs fs .non := rfl
@[simp] theorem kn_bl {b : Bool} : Kn cs fs (.bl b) := rfl
@[simp] theorem kn_int {i : Int} : Kn cs fs (.int i) := rfl
@[simp] theorem kn_str {s : Str} : Kn cs fs (.str s) := rfl
@[simp] theorem kn_tup {xs : List D} : Kn cs fs (.tup xs) := rfl
@[simp] theorem kn_lst {xs : List D} : Kn cs fs (.lst xs) := rfl
@[simp] theorem kn_dic {xs ys : List D} : Kn cs fs (.dic xs ys) := rfl
theorem kn_obj {c : Str} {ns : List Str} {ds : List D} (h : c ∈ cs) : Kn cs fs (.obj c ns ds) := by unfold Kn kindD; simp [h]
theorem kn_glo {c : Str} (h : c ∈ fs) : Kn cs fs (.glo c) := by unfold Kn kindD; simp [h]
theorem str_of (h : isStrD d = true) : ∃ s, d = .str s := by cases d <;> simp [isStrD] at h; exact ⟨_, rfl⟩
theorem tup_of (h : isTupD d = true) : ∃ s, d = .tup s := by cases d <;> simp [isTupD] at h; exact ⟨_, rfl⟩
theorem lst_of (h : isLstD d = true) : ∃ s, d = .lst s := by cases d <;> simp [isLstD] at h; exact ⟨_, rfl⟩
theorem bol_of (h : isBolD d = true) : ∃ s, d = .bl s := by cases d <;> simp [isBolD] at h; exact ⟨_, rfl⟩
end
/-- an item by its place -/
theorem at_nat {α : Type} {xs : List α} {i : Int} (h0 : 0 ≤ i) : atI xs i = xs[i.toNat]? := by
  unfold atI ixN
  rw [if_pos h0]
  by_cases h : i < xs.length
  · rw [if_pos h]; rfl
  · rw [if_neg h, List.getElem?_eq_none (by omega)]; rfl
theorem at_mem {α : Type} {xs : List α} {i : Int} (h0 : 0 ≤ i) (h1 : i < xs.length) : ∃ d, d ∈ xs ∧ atI xs i = some d := by
  have h : i.toNat < xs.length := by omega
  exact ⟨xs[i.toNat], List.getElem_mem h, by rw [at_nat h0]; exact List.getElem?_eq_getElem h⟩
theorem rangeD_get {lo hi : Int} {i : Nat} {d : D} (h : (rangeD lo hi)[i]? = some d) : d = .int (lo + i) ∧ lo + i < hi := by
  unfold rangeD at h
  rw [List.getElem?_map] at h
  cases e : (List.range (hi - lo).toNat)[i]? with
  | none => rw [e] at h; cases h
  | some k =>
    rw [e] at h; cases h
    obtain ⟨h1, h2⟩ := List.getElem?_eq_some_iff.mp e
    simp at h1 h2
    subst h2
    exact ⟨rfl, by omega⟩
theorem rangeD_len {lo hi : Int} : (rangeD lo hi).length = (hi - lo).toNat := by simp [rangeD]
@[simp ↓] theorem wp_eMt {f : Str → List D → Option RV} {m : ME} {ms : List ME} {ρ : Env} {Q : OV → Env → Prop} : (eMt f m ms ρ).wp Q = (m ρ).wp fun o ρ1 => owp (asS o) fun z => (evU ms ρ1).wp fun os ρ2 => owp (getOs ρ2 os) fun ds => owp (f z ds) fun r => Q r.ov ρ2 := by
  unfold eMt; repeat (first | rfl | exact wp_ok | exact wp_bind | exact wp_lift | (rw [wp_bind]; refine R.wp_ext fun _ _ => ?_) | (rw [wp_lift]; refine owp_ext fun _ => ?_))
@[simp] theorem asS_v {s : Str} : asS (.val (.str s)) = some s := rfl
@[simp ↓] theorem wp_eDic0 {ρ : Env} {Q : OV → Env → Prop} : (eDic0 ρ).wp Q = Q (.fresh (.dic [] [])) ρ := wp_ok
@[simp ↓] theorem wp_eDic1 {mk mv : ME} {ρ : Env} {Q : OV → Env → Prop} : (eDic1 mk mv ρ).wp Q = (eKeep mk ρ).wp fun o ρ1 => owp (asV o) fun kd => (eKeep mv ρ1).wp fun o2 ρ2 => owp (asV o2) fun v => owp (keyD kd) fun _ => Q (.fresh (.dic [kd] [v])) ρ2 := by
  unfold eDic1; repeat (first | rfl | exact wp_ok | exact wp_bind | exact wp_lift | (rw [wp_bind]; refine R.wp_ext fun _ _ => ?_) | (rw [wp_lift]; refine owp_ext fun _ => ?_))
@[simp] theorem keyD_s {s : Str} : keyD (.str s) = some (.inr s) := rfl
@[simp] theorem keyD_i {i : Int} : keyD (.int i) = some (.inl i) := rfl
@[simp ↓] theorem wp_eMut {i : Nat} {f : D → List D → Option (RV × D)} {ms : List ME} {ρ : Env} {Q : OV → Env → Prop} : (eMut i f ms ρ).wp Q = owp ((getM ρ i).bind isLst) fun _ => (evU ms ρ).wp fun os ρ1 => owp (getOs ρ1 os) fun ds => owp (getM ρ1 i) fun c => owp (f c ds) fun p => owp (putOut (.slot i) p.2 ρ1) fun ρ2 => Q p.1.ov ρ2 := by
  unfold eMut; repeat (first | rfl | exact wp_ok | exact wp_bind | exact wp_lift | (rw [wp_bind]; refine R.wp_ext fun _ _ => ?_) | (rw [wp_lift]; refine owp_ext fun _ => ?_))
@[simp] theorem isLst_l {xs : List D} : isLst (.lst xs) = some xs := rfl
@[simp ↓] theorem wp_eMake {f : FunSem} {c : Str} {ms : List ME} {ps : List Pm} {ρ : Env} {Q : OV → Env → Prop} : (eMake f c ms ps ρ).wp Q = (evU ms ρ).wp fun os ρ1 => if noFresh os then owp (pick os ps) fun os' => (doMake f (.fresh (.obj c [] []) :: os') ρ1).wp Q else False := by
  unfold eMake; rw [wp_bind]; refine R.wp_ext fun os ρ1 => ?_
  cases noFresh os with
  | false => simp
  | true => simp only [if_true]; exact wp_lift
/-- what a constructor left -/
def mkwp (fr : Bool) (d : D) (outs : List D) (f : FunSem) (os : List OV) (ρ : Env) (Q : OV → Env → Prop) : Prop := match fr, d, outs with
  | false, .non, self :: rest => owp (putOuts f.modes os (self :: rest) ρ) fun ρ2 => Q (.fresh self) ρ2
  | _, _, _ => False
@[simp ↓] theorem wp_doMake {f : FunSem} {os : List OV} {ρ : Env} {Q : OV → Env → Prop} : (doMake f os ρ).wp Q = if lentOk f.modes os [] then owp (getOs ρ os) fun ds => (f.run ds).wp fun fr d outs => mkwp fr d outs f os ρ Q else False := by
  unfold doMake; split
  · rw [wp_lift]; refine owp_ext fun ds => ?_
    cases e : f.run ds with
    | no => simp
    | ex e outs => simp only [fwp_ex]; rw [wp_lift]; cases putOuts f.modes os outs ρ <;> simp
    | ret fr d outs =>
      simp only [fwp_ret]
      cases fr with
      | true => simp [mkwp]
      | false => cases d <;> first | (simp [mkwp]; done) | (cases outs with | nil => simp [mkwp] | cons a as => simp only [mkwp]; rw [wp_lift]; exact owp_ext fun _ => wp_ok)
  · simp
@[simp] theorem mkwp_ok {self : D} {outs : List D} {f : FunSem} {os : List OV} {ρ : Env} {Q : OV → Env → Prop} : mkwp false .non (self :: outs) f os ρ Q = owp (putOuts f.modes os (self :: outs) ρ) fun ρ2 => Q (.fresh self) ρ2 := rfl
@[simp ↓] theorem wp_eMeth {tbl : List (Str × FunSem × List Pm)} {name : Str} {m : ME} {ms : List ME} {ρ : Env} {Q : OV → Env → Prop} : (eMeth tbl name m ms ρ).wp Q = (m ρ).wp fun o ρ1 => owp (getO ρ1 o) fun d => owp (asObj d) fun c => owp (tbl.lookup c.1) fun f => if c.2.1.contains name then False else (evU ms ρ1).wp fun os ρ2 => if noFresh (o :: os) then owp (pick os f.2) fun os' => (doCall f.1 (o :: os') ρ2).wp Q else False := by
  unfold eMeth; rw [wp_bind]; refine R.wp_ext fun o ρ1 => ?_; rw [wp_lift]; refine owp_ext fun d => ?_; rw [wp_lift]; refine owp_ext fun c => ?_; rw [wp_lift]; refine owp_ext fun f => ?_
  cases c.2.1.contains name with
  | true => simp
  | false =>
    simp only [Bool.false_eq_true, if_false]; rw [wp_bind]; refine R.wp_ext fun os ρ2 => ?_
    cases noFresh (o :: os) with
    | false => simp
    | true => simp only [if_true]; exact wp_lift
@[simp] theorem asObj_o {c : Str} {ns : List Str} {ds : List D} : asObj (.obj c ns ds) = some (c, ns, ds) := rfl
/-! ### texts -/
theorem app_cps (x y : Str) : (x ++ y).cps.toList = x.cps.toList ++ y.cps.toList := by
  show (x.cps ++ y.cps).toList = _
  simp
theorem len_cps (x : Str) : x.length = x.cps.toList.length := by simp [Str.length]
theorem join_cps (z : Str) : ∀ ss : List Str, (Str.join z ss).cps.toList = (List.intersperse z.cps.toList (ss.map (·.cps.toList))).flatten
  | [] => rfl
  | [x] => by simp [Str.join]
  | x :: y :: r => by
    show (x ++ z ++ Str.join z (y :: r)).cps.toList = _
    rw [app_cps, app_cps, join_cps z (y :: r)]
    simp
theorem join0_cps : ∀ ss : List Str, (Str.join "" ss).cps.toList = (ss.map (·.cps.toList)).flatten
  | [] => rfl
  | [x] => by simp [Str.join]
  | x :: y :: r => by
    show (x ++ "" ++ Str.join "" (y :: r)).cps.toList = _
    rw [app_cps, app_cps, join0_cps (y :: r)]
    have : (("" : Str)).cps.toList = [] := rfl
    simp [this]
/-! ### loops -/
theorem wp_forI {g : Tg} {b : MS} {xs : List D} {ρ : Env} {Q : Fl → Env → Prop} (I : Nat → Env → Prop) (h0 : I 0 ρ)
    (hs : ∀ (i : Nat) (d : D) (ρ : Env), xs[i]? = some d → I i ρ → owp (g.put d ρ) fun ρ1 => (b ρ1).wp fun f ρ2 => match f with
      | .nx => I (i + 1) ρ2 | .ct => I (i + 1) ρ2 | .bk => Q .nx ρ2 | .rt o => Q (.rt o) ρ2) (hd : ∀ ρ, I xs.length ρ → Q .nx ρ) : wFor g b xs ρ Q := by
  induction xs generalizing I ρ with
  | nil => rw [wp_for0]; exact hd _ h0
  | cons d ds ih =>
    rw [wp_for1]
    have z := hs 0 d ρ rfl h0
    cases e : g.put d ρ with
    | none => rw [e, owp_none] at z; exact z.elim
    | some ρ1 =>
      rw [e] at z
      simp only [owp_some] at z ⊢
      have go : ∀ ρ2, I 1 ρ2 → wFor g b ds ρ2 Q := fun ρ2 h => ih (fun i => I (i + 1)) h (fun i d ρ hi hI => hs (i + 1) d ρ (by simpa using hi) hI) (by simpa using hd)
      refine R.wp_mono z fun f ρ2 h => ?_
      cases f with
      | nx => exact go _ h
      | ct => exact go _ h
      | bk => exact h
      | rt o => exact h
/-- a list comprehension's turns -/
@[irreducible] def wLc (vs : List Nat) (g : Tg) (t : MT) (e : ME) (xs : List D) (ρ : Env) (Q : List D → Env → Prop) (_ : Tag Q := .mk) : Prop := (goLc vs g t e xs ρ).wp Q
@[simp ↓] theorem wp_eLc {vs : List Nat} {it : MI} {g : Tg} {t : MT} {e : ME} {ρ : Env} {Q : OV → Env → Prop} : (eLc vs it g t e ρ).wp Q = (it ρ).wp fun xs ρ1 => if plainAt ρ1 vs then wLc vs g t e xs (wipeE ρ1 vs) (fun ys ρ2 => Q (.fresh (.lst ys)) (backE ρ1 ρ2 vs)) else False := by
  unfold eLc wLc; rw [wp_bind]; refine R.wp_ext fun xs ρ1 => ?_
  cases plainAt ρ1 vs with
  | false => simp
  | true => simp only [wp_bind, if_true]; cases goLc vs g t e xs (wipeE ρ1 vs) <;> simp [calmly]
theorem wp_lcI {vs : List Nat} {g : Tg} {t : MT} {e : ME} {xs : List D} {ρ : Env} {Q : List D → Env → Prop} (I : Nat → List D → Env → Prop) (h0 : I 0 [] ρ)
    (hs : ∀ (i : Nat) (d : D) (acc : List D) (ρ : Env), xs[i]? = some d → I i acc ρ → owp (g.put d ρ) fun ρ1 => (t ρ1).wp fun k ρ2 => if k then (eKeep e ρ2).wp fun o ρ3 => owp (asV o) fun y => I (i + 1) (acc ++ [y]) (wipeE ρ3 vs) else I (i + 1) acc (wipeE ρ2 vs))
    (hd : ∀ acc ρ, I xs.length acc ρ → Q acc ρ) : wLc vs g t e xs ρ Q := by
  unfold wLc
  suffices h : ∀ (xs : List D) (ρ : Env) (acc : List D) (I : Nat → List D → Env → Prop), I 0 acc ρ → (∀ (i : Nat) (d : D) (acc : List D) (ρ : Env), xs[i]? = some d → I i acc ρ → owp (g.put d ρ) fun ρ1 => (t ρ1).wp fun k ρ2 => if k then (eKeep e ρ2).wp fun o ρ3 => owp (asV o) fun y => I (i + 1) (acc ++ [y]) (wipeE ρ3 vs) else I (i + 1) acc (wipeE ρ2 vs)) →
      (∀ acc ρ, I xs.length acc ρ → Q acc ρ) → (goLc vs g t e xs ρ).wp fun ys ρ' => Q (acc ++ ys) ρ' by
    simpa using h xs ρ [] I h0 hs hd
  intro xs
  induction xs with
  | nil => intro ρ acc I h0 hs hd; simp only [goLc, wp_ok, List.append_nil]; exact hd _ _ h0
  | cons d ds ih =>
    intro ρ acc I h0 hs hd
    have z := hs 0 d acc ρ rfl h0
    simp only [goLc]
    rw [wp_lift]
    cases e1 : g.put d ρ with
    | none => rw [e1, owp_none] at z; exact z.elim
    | some ρ1 =>
      rw [e1] at z
      simp only [owp_some] at z ⊢
      rw [wp_bind]
      have hs' : ∀ (i : Nat) (d : D) (acc : List D) (ρ : Env), ds[i]? = some d → I (i + 1) acc ρ → owp (g.put d ρ) fun ρ1 => (t ρ1).wp fun k ρ2 => if k then (eKeep e ρ2).wp fun o ρ3 => owp (asV o) fun y => I (i + 1 + 1) (acc ++ [y]) (wipeE ρ3 vs) else I (i + 1 + 1) acc (wipeE ρ2 vs) := fun i d acc ρ hi hI => hs (i + 1) d acc ρ (by simpa using hi) hI
      have hd' : ∀ acc ρ, I (ds.length + 1) acc ρ → Q acc ρ := by simpa using hd
      refine R.wp_mono z fun k ρ2 h => ?_
      cases k with
      | false => exact ih _ acc (fun i => I (i + 1)) h hs' hd'
      | true =>
        simp only [if_true] at h ⊢
        rw [wp_bind]
        refine R.wp_mono h fun o ρ3 h => ?_
        rw [wp_lift]
        cases e2 : asV o with
        | none => rw [e2, owp_none] at h; exact h.elim
        | some y =>
          rw [e2] at h
          simp only [owp_some] at h ⊢
          rw [wp_bind]
          refine R.wp_mono (ih _ (acc ++ [y]) (fun i => I (i + 1)) h hs' hd') fun ys ρ' q => ?_
          simpa using q
@[simp ↓] theorem wp_lc0 {vs : List Nat} {g : Tg} {t : MT} {e : ME} {ρ : Env} {Q : List D → Env → Prop} : wLc vs g t e [] ρ Q = Q [] ρ := by unfold wLc; simp only [goLc]; rw [wp_ok]
theorem wp_lc1 {vs : List Nat} {g : Tg} {t : MT} {e : ME} {d : D} {ds : List D} {ρ : Env} {Q : List D → Env → Prop} : wLc vs g t e (d :: ds) ρ Q = owp (g.put d ρ) fun ρ1 => (t ρ1).wp fun k ρ2 => if k then (eKeep e ρ2).wp fun o ρ3 => owp (asV o) fun y => wLc vs g t e ds (wipeE ρ3 vs) fun ys ρ4 => Q (y :: ys) ρ4 else wLc vs g t e ds (wipeE ρ2 vs) Q := by
  unfold wLc; simp only [goLc]; rw [wp_lift]; refine owp_ext fun ρ1 => ?_; rw [wp_bind]; refine R.wp_ext fun k ρ2 => ?_
  cases k with
  | false => simp
  | true =>
    simp only [if_true]; rw [wp_bind]; refine R.wp_ext fun o ρ3 => ?_; rw [wp_lift]; refine owp_ext fun y => ?_; rw [wp_bind]; exact R.wp_ext fun ys ρ4 => wp_ok
/-- each item gives one value, the slots stay -/
theorem wp_lcM {vs : List Nat} {g : Tg} {t : MT} {e : ME} {xs : List D} {ρ : Env} {Q : List D → Env → Prop} (h : D → D)
    (hs : ∀ d ∈ xs, owp (g.put d ρ) fun ρ1 => (t ρ1).wp fun k ρ2 => k = true ∧ (eKeep e ρ2).wp fun o ρ3 => o = .val (h d) ∧ wipeE ρ3 vs = ρ) (hd : Q (xs.map h) ρ) : wLc vs g t e xs ρ Q := by
  refine wp_lcI (fun i acc ρ' => acc = (xs.take i).map h ∧ ρ' = ρ) ⟨by simp, rfl⟩ ?_ ?_
  · rintro i d acc ρ' hi ⟨rfl, rfl⟩
    have z := hs d (List.mem_of_getElem? hi)
    cases e1 : g.put d ρ' with
    | none => rw [e1, owp_none] at z; exact z.elim
    | some ρ1 =>
      rw [e1] at z
      simp only [owp_some] at z ⊢
      refine R.wp_mono z fun k ρ2 q => ?_
      obtain ⟨rfl, q⟩ := q
      simp only [if_true]
      refine R.wp_mono q fun o ρ3 q => ?_
      obtain ⟨rfl, q⟩ := q
      simp only [asV_v, owp_some]
      refine ⟨?_, q⟩
      have hlt := (List.getElem?_eq_some_iff.mp hi).1
      rw [List.take_succ_eq_append_getElem hlt, List.map_append]
      have : xs[i] = d := (List.getElem?_eq_some_iff.mp hi).2
      simp [this]
  · rintro acc ρ' ⟨rfl, rfl⟩
    simpa using hd
/-- .. those that pass a test -/
theorem wp_lcF {vs : List Nat} {g : Tg} {t : MT} {e : ME} {xs : List D} {ρ : Env} {Q : List D → Env → Prop} (p : D → Bool) (h : D → D)
    (hs : ∀ d ∈ xs, owp (g.put d ρ) fun ρ1 => (t ρ1).wp fun k ρ2 => k = p d ∧ if p d then (eKeep e ρ2).wp fun o ρ3 => o = .val (h d) ∧ wipeE ρ3 vs = ρ else wipeE ρ2 vs = ρ) (hd : Q ((xs.filter p).map h) ρ) : wLc vs g t e xs ρ Q := by
  refine wp_lcI (fun i acc ρ' => acc = ((xs.take i).filter p).map h ∧ ρ' = ρ) ⟨by simp, rfl⟩ ?_ ?_
  · rintro i d acc ρ' hi ⟨rfl, rfl⟩
    have z := hs d (List.mem_of_getElem? hi)
    have hlt := (List.getElem?_eq_some_iff.mp hi).1
    have hxi : xs[i] = d := (List.getElem?_eq_some_iff.mp hi).2
    cases e1 : g.put d ρ' with
    | none => rw [e1, owp_none] at z; exact z.elim
    | some ρ1 =>
      rw [e1] at z
      simp only [owp_some] at z ⊢
      refine R.wp_mono z fun k ρ2 q => ?_
      obtain ⟨rfl, q⟩ := q
      cases hp : p d with
      | false =>
        simp only [hp, Bool.false_eq_true, if_false] at q ⊢
        refine ⟨?_, q⟩
        rw [List.take_succ_eq_append_getElem hlt, List.filter_append]
        simp [hxi, hp]
      | true =>
        simp only [hp, if_true] at q ⊢
        refine R.wp_mono q fun o ρ3 q => ?_
        obtain ⟨rfl, q⟩ := q
        simp only [asV_v, owp_some]
        refine ⟨?_, q⟩
        rw [List.take_succ_eq_append_getElem hlt, List.filter_append]
        simp [hxi, hp]
  · rintro acc ρ' ⟨rfl, rfl⟩
    simpa using hd
theorem wp_lcA {α : Type} {vs : List Nat} {g : Tg} {t : MT} {e : ME} {ys : List α} {f : α → D} {ρ : Env} {Q : List D → Env → Prop} (h : α → D)
    (hs : ∀ y ∈ ys, owp (g.put (f y) ρ) fun ρ1 => (t ρ1).wp fun k ρ2 => k = true ∧ (eKeep e ρ2).wp fun o ρ3 => o = .val (h y) ∧ wipeE ρ3 vs = ρ) (hd : Q (ys.map h) ρ) : wLc vs g t e (ys.map f) ρ Q := by
  refine wp_lcI (fun i acc ρ' => acc = (ys.take i).map h ∧ ρ' = ρ) ⟨by simp, rfl⟩ ?_ ?_
  · rintro i d acc ρ' hi ⟨rfl, rfl⟩
    rw [List.getElem?_map] at hi
    cases ey : ys[i]? with
    | none => rw [ey] at hi; cases hi
    | some y =>
      rw [ey] at hi; cases hi
      have z := hs y (List.mem_of_getElem? ey)
      cases e1 : g.put (f y) ρ' with
      | none => rw [e1, owp_none] at z; exact z.elim
      | some ρ1 =>
        rw [e1] at z
        simp only [owp_some] at z ⊢
        refine R.wp_mono z fun k ρ2 q => ?_
        obtain ⟨rfl, q⟩ := q
        simp only [if_true]
        refine R.wp_mono q fun o ρ3 q => ?_
        obtain ⟨rfl, q⟩ := q
        simp only [asV_v, owp_some]
        refine ⟨?_, q⟩
        have hlt := (List.getElem?_eq_some_iff.mp ey).1
        rw [List.take_succ_eq_append_getElem hlt, List.map_append]
        have : ys[i] = y := (List.getElem?_eq_some_iff.mp ey).2
        simp [this]
  · rintro acc ρ' ⟨rfl, rfl⟩
    simpa using hd
theorem wp_lcAF {α : Type} {vs : List Nat} {g : Tg} {t : MT} {e : ME} {ys : List α} {f : α → D} {ρ : Env} {Q : List D → Env → Prop} (p : α → Bool) (h : α → D)
    (hs : ∀ y ∈ ys, owp (g.put (f y) ρ) fun ρ1 => (t ρ1).wp fun k ρ2 => k = p y ∧ if p y then (eKeep e ρ2).wp fun o ρ3 => o = .val (h y) ∧ wipeE ρ3 vs = ρ else wipeE ρ2 vs = ρ) (hd : Q ((ys.filter p).map h) ρ) : wLc vs g t e (ys.map f) ρ Q := by
  refine wp_lcI (fun i acc ρ' => acc = ((ys.take i).filter p).map h ∧ ρ' = ρ) ⟨by simp, rfl⟩ ?_ ?_
  · rintro i d acc ρ' hi ⟨rfl, rfl⟩
    rw [List.getElem?_map] at hi
    cases ey : ys[i]? with
    | none => rw [ey] at hi; cases hi
    | some y =>
      rw [ey] at hi; cases hi
      have z := hs y (List.mem_of_getElem? ey)
      have hlt := (List.getElem?_eq_some_iff.mp ey).1
      have hxi : ys[i] = y := (List.getElem?_eq_some_iff.mp ey).2
      cases e1 : g.put (f y) ρ' with
      | none => rw [e1, owp_none] at z; exact z.elim
      | some ρ1 =>
        rw [e1] at z
        simp only [owp_some] at z ⊢
        refine R.wp_mono z fun k ρ2 q => ?_
        obtain ⟨rfl, q⟩ := q
        cases hp : p y with
        | false =>
          simp only [hp, Bool.false_eq_true, if_false] at q ⊢
          refine ⟨?_, q⟩
          rw [List.take_succ_eq_append_getElem hlt, List.filter_append]
          simp [hxi, hp]
        | true =>
          simp only [hp, if_true] at q ⊢
          refine R.wp_mono q fun o ρ3 q => ?_
          obtain ⟨rfl, q⟩ := q
          simp only [asV_v, owp_some]
          refine ⟨?_, q⟩
          rw [List.take_succ_eq_append_getElem hlt, List.filter_append]
          simp [hxi, hp]
  · rintro acc ρ' ⟨rfl, rfl⟩
    simpa using hd
@[simp] theorem wipe_0 {ρ : Env} : wipeE ρ [] = ρ := rfl
@[simp] theorem wipe_1 {ρ : Env} {v : Nat} {vs : List Nat} : wipeE ρ (v :: vs) = (wipeE ρ vs).set v none := rfl
@[simp] theorem back_0 {ρ0 ρ : Env} : backE ρ0 ρ [] = ρ := rfl
@[simp] theorem back_1 {ρ0 ρ : Env} {v : Nat} {vs : List Nat} : backE ρ0 ρ (v :: vs) = (backE ρ0 ρ vs).set v (ρ0[v]?.getD none) := rfl
@[simp] theorem plainAt_0 {ρ : Env} : plainAt ρ [] = true := rfl
def isPl : Option (Option SV) → Bool
  | some none => true | some (some (.val _)) => true | _ => false
@[simp] theorem plainAt_1 {ρ : Env} {v : Nat} {vs : List Nat} : plainAt ρ (v :: vs) = (isPl ρ[v]? && plainAt ρ vs) := by
  simp only [plainAt]; congr 1
@[simp] theorem isPl_n : isPl (some none) = true := rfl
@[simp] theorem isPl_v {d : D} : isPl (some (some (.val d))) = true := rfl
end RF
end
section
/-! RN: names, ways; comprehensions of more clauses. -/
namespace RF
open PySem L2
/-! ### comprehensions of more clauses -/
/-- a clause's turns -/
@[irreducible] def wLoop (inner : D → Env → R D) (c : Cl) (xs : List D) (acc : D) (ρ : Env) (Q : D → Env → Prop) (_ : Tag Q := .mk) : Prop := (loopC inner c xs acc ρ).wp Q
@[simp ↓] theorem wp_eComp {new : D} {em : D → Env → R D} {c : Cl} {cs : List Cl} {ρ : Env} {Q : OV → Env → Prop} : (eComp new em c cs ρ).wp Q = (c.it ρ).wp fun xs ρ1 => if plainAt ρ1 c.vs then wLoop (goC em cs) c xs new (wipeE ρ1 c.vs) (fun acc ρ2 => Q (.fresh acc) (backE ρ1 ρ2 c.vs)) else False := by
  unfold eComp wLoop; rw [wp_bind]; refine R.wp_ext fun xs ρ1 => ?_
  cases plainAt ρ1 c.vs with
  | false => simp
  | true => simp only [wp_bind, if_true]; cases loopC (goC em cs) c xs new (wipeE ρ1 c.vs) <;> simp [calmly]
theorem wp_loopC {inner : D → Env → R D} {c : Cl} {xs : List D} {acc : D} {ρ : Env} {Q : D → Env → Prop} (I : Nat → D → Env → Prop) (h0 : I 0 acc ρ)
    (hs : ∀ (i : Nat) (d acc : D) (ρ : Env), xs[i]? = some d → I i acc ρ → owp (c.k.put d ρ) fun ρ1 => (c.t ρ1).wp fun b ρ2 => if b then (inner acc ρ2).wp fun acc' ρ3 => I (i + 1) acc' (wipeE ρ3 c.vs) else I (i + 1) acc (wipeE ρ2 c.vs))
    (hd : ∀ acc ρ, I xs.length acc ρ → Q acc ρ) : wLoop inner c xs acc ρ Q := by
  unfold wLoop
  induction xs generalizing I acc ρ with
  | nil => simp only [loopC]; rw [wp_ok]; exact hd _ _ h0
  | cons d ds ih =>
    have z := hs 0 d acc ρ rfl h0
    simp only [loopC]
    rw [wp_lift]
    cases e1 : c.k.put d ρ with
    | none => rw [e1, owp_none] at z; exact z.elim
    | some ρ1 =>
      rw [e1] at z
      simp only [owp_some] at z ⊢
      rw [wp_bind]
      have go : ∀ acc ρ2, I 1 acc ρ2 → (loopC inner c ds acc ρ2).wp Q := fun acc ρ2 h => ih (fun i => I (i + 1)) h (fun i d acc ρ hi hI => hs (i + 1) d acc ρ (by simpa using hi) hI) (by simpa using hd)
      refine R.wp_mono z fun b ρ2 h => ?_
      cases b with
      | false => exact go _ _ h
      | true =>
        simp only [if_true] at h ⊢
        rw [wp_bind]
        exact R.wp_mono h fun acc' ρ3 h => go _ _ h
@[simp] theorem goC_0 {em : D → Env → R D} : goC em [] = em := rfl
@[simp ↓] theorem wp_goC1 {em : D → Env → R D} {c : Cl} {cs : List Cl} {acc : D} {ρ : Env} {Q : D → Env → Prop} : (goC em (c :: cs) acc ρ).wp Q = (c.it ρ).wp fun xs ρ1 => wLoop (goC em cs) c xs acc (wipeE ρ1 c.vs) Q := by
  unfold wLoop; simp only [goC]; exact wp_bind
@[simp ↓] theorem wp_loop0 {inner : D → Env → R D} {c : Cl} {acc : D} {ρ : Env} {Q : D → Env → Prop} : wLoop inner c [] acc ρ Q = Q acc ρ := by unfold wLoop; simp only [loopC]; rw [wp_ok]
theorem wp_loop1 {inner : D → Env → R D} {c : Cl} {d : D} {ds : List D} {acc : D} {ρ : Env} {Q : D → Env → Prop} : wLoop inner c (d :: ds) acc ρ Q = owp (c.k.put d ρ) fun ρ1 => (c.t ρ1).wp fun b ρ2 => if b then (inner acc ρ2).wp fun acc' ρ3 => wLoop inner c ds acc' (wipeE ρ3 c.vs) Q else wLoop inner c ds acc (wipeE ρ2 c.vs) Q := by
  unfold wLoop; simp only [loopC]; rw [wp_lift]; refine owp_ext fun ρ1 => ?_; rw [wp_bind]; refine R.wp_ext fun b ρ2 => ?_
  cases b with
  | false => simp
  | true => simp only [if_true]; exact wp_bind
@[simp ↓] theorem wp_emSp {m : ME} {acc : D} {ρ : Env} {Q : D → Env → Prop} : (emSp m acc ρ).wp Q = (eKeep m ρ).wp fun o ρ1 => owp (asS o) fun k => owp (addD1 acc k) fun acc' => Q acc' ρ1 := by
  unfold emSp; repeat (first | rfl | exact wp_ok | exact wp_bind | exact wp_lift | (rw [wp_bind]; refine R.wp_ext fun _ _ => ?_) | (rw [wp_lift]; refine owp_ext fun _ => ?_))
@[simp ↓] theorem wp_emLp {m : ME} {acc : D} {ρ : Env} {Q : D → Env → Prop} : (emLp m acc ρ).wp Q = (eKeep m ρ).wp fun o ρ1 => owp (asV o) fun y => owp (pushD acc y) fun acc' => Q acc' ρ1 := by
  unfold emLp; repeat (first | rfl | exact wp_ok | exact wp_bind | exact wp_lift | (rw [wp_bind]; refine R.wp_ext fun _ _ => ?_) | (rw [wp_lift]; refine owp_ext fun _ => ?_))
@[simp ↓] theorem wp_emDp {mk mv : ME} {acc : D} {ρ : Env} {Q : D → Env → Prop} : (emDp mk mv acc ρ).wp Q = (eKeep mk ρ).wp fun o ρ1 => owp (asV o) fun kd => (eKeep mv ρ1).wp fun o2 ρ2 => owp (asV o2) fun v => owp (putDic acc kd v) fun acc' => Q acc' ρ2 := by
  unfold emDp; repeat (first | rfl | exact wp_ok | exact wp_bind | exact wp_lift | (rw [wp_bind]; refine R.wp_ext fun _ _ => ?_) | (rw [wp_lift]; refine owp_ext fun _ => ?_))
@[simp] theorem addD1_s {l : List Str} {k : Str} : addD1 (.set (l.map .str)) k = if l.length < 900 then some (.set ((ins1 k l).map .str)) else none := by simp [addD1, strsD_map]
@[simp] theorem pushD_l {xs : List D} {y : D} : pushD (.lst xs) y = if xs.length < cap then some (.lst (xs ++ [y])) else none := rfl
/-! ### texts and pairs of texts as data -/
def wayD (w : Str × Str) : D := .tup [.str w.1, .str w.2]
theorem plain_way {w : Str × Str} : plain (wayD w) = true := rfl
theorem plains_ways : ∀ ws : List (Str × Str), plains (ws.map wayD) = true
  | [] => rfl
  | w :: ws => by simp [plains, plain_way, plains_ways ws]
theorem dep_way {w : Str × Str} : dep (wayD w) = 1 := rfl
theorem deps_ways : ∀ ws : List (Str × Str), deps (ws.map wayD) ≤ 1
  | [] => by simp [deps]
  | w :: ws => by
    have := deps_ways ws
    simp only [List.map_cons, deps, dep_way]; omega
theorem eqb_str {a b : Str} : eqb (.str a) (.str b) = decide (a = b) := by simp [eqb, beq_dec]
theorem eqb_way {a b : Str × Str} : eqb (wayD a) (wayD b) = decide (a = b) := by
  obtain ⟨a1, a2⟩ := a
  obtain ⟨b1, b2⟩ := b
  simp [wayD, eqb, eqbs, beq_dec]
theorem any_dec {α : Type} [DecidableEq α] {f : α → D} (hf : ∀ a b, eqb (f a) (f b) = decide (a = b)) {x : α} : ∀ {l : List α}, ((l.map f).any fun y => eqb y (f x)) = decide (x ∈ l)
  | [] => by simp
  | a :: l => by
    rw [List.map_cons, List.any_cons, hf, any_dec hf]
    simp only [List.mem_cons]
    by_cases h : a = x
    · simp [h]
    · have : ¬ x = a := fun e => h e.symm
      simp [h, this]
theorem in_ways_t {w : Str × Str} {ws : List (Str × Str)} : inB [wayD w, .tup (ws.map wayD)] = some (decide (w ∈ ws)) := by
  have h := deps_ways ws
  simp [inB, plain_way, plains_ways, dep_way, any_dec (f := wayD) (fun a b => eqb_way), show min (deps (ws.map wayD)) 1 ≤ 60 by omega]
theorem in_ways_l {w : Str × Str} {ws : List (Str × Str)} : inB [wayD w, .lst (ws.map wayD)] = some (decide (w ∈ ws)) := by
  have h := deps_ways ws
  simp [inB, plain_way, plains_ways, dep_way, any_dec (f := wayD) (fun a b => eqb_way), show min (deps (ws.map wayD)) 1 ≤ 60 by omega]
theorem in_strs_l {s : Str} {ss : List Str} : inB [.str s, .lst (ss.map .str)] = some (decide (s ∈ ss)) := by
  simp [inB, plain, plains_strs, dep, deps_strs, any_dec (f := D.str) (fun a b => eqb_str)]
theorem in_strs_t {s : Str} {ss : List Str} : inB [.str s, .tup (ss.map .str)] = some (decide (s ∈ ss)) := by
  simp [inB, plain, plains_strs, dep, deps_strs, any_dec (f := D.str) (fun a b => eqb_str)]
@[simp] theorem inD_def {ds : List D} : inD ds = (inB ds).map fun b => .val (.bl b) := rfl
@[simp] theorem notInD_def {ds : List D} : notInD ds = (inB ds).map fun b => .val (.bl (!b)) := rfl
theorem cutD_map {α β : Type} {f : α → β} {xs : List α} {lo hi : Option Int} : cutD (xs.map f) lo hi = (cutD xs lo hi).map f := by
  unfold cutD; simp [List.map_drop, List.map_take]
theorem cutD_take {α : Type} {xs : List α} {i : Nat} : cutD xs none (some (i : Int)) = xs.take i := by
  unfold cutD
  simp only [HT.sIx_none, HT.sIx_nat, List.drop_zero, Nat.sub_zero]
  rw [← List.take_eq_take_min]
/-! ### sorting -/
def sortS (l : List Str) : List Str := l.mergeSort fun x y => leD1 (.str x) (.str y)
def sortW (l : List (Str × Str)) : List (Str × Str) := l.mergeSort fun x y => leD1 (wayD x) (wayD y)
theorem sortD_strs {l : List Str} : sortD (l.map .str) = (sortS l).map .str := by
  unfold sortD sortS
  exact (List.map_mergeSort (r := fun x y => leD1 (.str x) (.str y)) (s := leD1) (f := D.str) (fun a _ b _ => rfl)).symm
theorem sortD_ways {l : List (Str × Str)} : sortD (l.map wayD) = (sortW l).map wayD := by
  unfold sortD sortW
  exact (List.map_mergeSort (r := fun x y => leD1 (wayD x) (wayD y)) (s := leD1) (f := wayD) (fun a _ b _ => rfl)).symm
theorem sortOk_ways (ws : List (Str × Str)) : sortOk (ws.map wayD) = true := by
  have h := deps_ways ws
  unfold sortOk
  simp only [Bool.and_eq_true, plains_ways, decide_eq_true_eq]
  refine ⟨⟨⟨trivial, ?_⟩, ?_⟩, by omega⟩
  · simp only [List.all_eq_true, List.mem_map]
    rintro x ⟨a, _, rfl⟩ y ⟨b, _, rfl⟩
    rfl
  · simp only [Bool.or_eq_true]
    left
    simp only [List.all_eq_true, List.mem_map]
    rintro x ⟨a, _, rfl⟩
    rfl
@[simp] theorem sorted_ways_t {ws : List (Str × Str)} : sortedD [.tup (ws.map wayD)] = some (.fresh (.lst ((sortW ws).map wayD))) := by
  simp [sortedD, sortOk_ways, sortD_ways]
@[simp] theorem sorted_ways_l {ws : List (Str × Str)} : sortedD [.lst (ws.map wayD)] = some (.fresh (.lst ((sortW ws).map wayD))) := by
  simp [sortedD, sortOk_ways, sortD_ways]
@[simp] theorem sorted_strs_l {ss : List Str} : sortedD [.lst (ss.map .str)] = some (.fresh (.lst ((sortS ss).map .str))) := by
  simp [sortedD, sortOk_strs, sortD_strs]
@[simp] theorem sorted_strs_s {ss : List Str} : sortedD [.set (ss.map .str)] = if ss.length < 1000 then some (.fresh (.lst ((sortS ss).map .str))) else none := by
  simp [sortedD, sortD_strs]
theorem sortS_perm (l : List Str) : (sortS l).Perm l := List.mergeSort_perm _ _
theorem sortW_perm (l : List (Str × Str)) : (sortW l).Perm l := List.mergeSort_perm _ _
theorem snoc_ind {α : Type} {P : List α → Prop} (h0 : P []) (hs : ∀ l a, P l → P (l ++ [a])) : ∀ l, P l := by
  have h : ∀ l : List α, P l.reverse := by
    intro l
    induction l with
    | nil => exact h0
    | cons a l ih => rw [List.reverse_cons]; exact hs _ _ ih
  intro l
  rw [← List.reverse_reverse l]; exact h _
/-- the places that ways join, the last first -/
def jn (ws : List (Str × Str)) : List Str := ws.foldl (fun l w => ins1 w.2 (ins1 w.1 l)) []
theorem jn_snoc {ws : List (Str × Str)} {w : Str × Str} : jn (ws ++ [w]) = ins1 w.2 (ins1 w.1 (jn ws)) := by simp [jn]
theorem jn_mem {x : Str} (ws : List (Str × Str)) : x ∈ jn ws ↔ ∃ w ∈ ws, x = w.1 ∨ x = w.2 := by
  refine snoc_ind (P := fun ws => x ∈ jn ws ↔ ∃ w ∈ ws, x = w.1 ∨ x = w.2) (by simp [jn]) (fun ws w ih => ?_) ws
  · rw [jn_snoc, ins1_mem, ins1_mem, ih]
    constructor
    · rintro (h | h | ⟨v, hv, h⟩)
      · exact ⟨w, by simp, .inr h⟩
      · exact ⟨w, by simp, .inl h⟩
      · exact ⟨v, by simp [hv], h⟩
    · rintro ⟨v, hv, h⟩
      rcases List.mem_append.mp hv with hv | hv
      · exact .inr (.inr ⟨v, hv, h⟩)
      · simp at hv; subst hv
        rcases h with h | h
        · exact .inr (.inl h)
        · exact .inl h
theorem jn_nodup (ws : List (Str × Str)) : (jn ws).Nodup := by
  refine snoc_ind (P := fun ws => (jn ws).Nodup) (by simp [jn]) (fun ws w ih => ?_) ws
  rw [jn_snoc]; exact ins1_nodup (ins1_nodup ih)
theorem jn_len (ws : List (Str × Str)) : (jn ws).length ≤ 2 * ws.length := by
  refine snoc_ind (P := fun ws => (jn ws).length ≤ 2 * ws.length) (by simp [jn]) (fun ws w ih => ?_) ws
  · rw [jn_snoc]
    have h1 := ins1_len w.2 (ins1 w.1 (jn ws))
    have h2 := ins1_len w.1 (jn ws)
    simp; omega
/-! ### index, min, first and rest -/
@[simp ↓] theorem wp_eSq {fl ft : List D → Option RV} {m : ME} {ms : List ME} {ρ : Env} {Q : OV → Env → Prop} : (eSq fl ft m ms ρ).wp Q = (m ρ).wp fun o ρ1 => owp ((getO ρ1 o).bind (pickQ fl ft)) fun f => (evU ms ρ1).wp fun os ρ2 => owp (getOs ρ2 (o :: os)) fun ds => owp (f ds) fun r => Q r.ov ρ2 := by
  unfold eSq; repeat (first | rfl | exact wp_ok | exact wp_bind | exact wp_lift | (rw [wp_bind]; refine R.wp_ext fun _ _ => ?_) | (rw [wp_lift]; refine owp_ext fun _ => ?_))
@[simp ↓] theorem wp_sStar {is : List Nat} {m : ME} {ρ : Env} {Q : Fl → Env → Prop} : (sStar is m ρ).wp Q = (m ρ).wp fun o ρ1 => owp ((getO ρ1 o).bind splitT) fun p => owp (putSs is [.val p.1, .fresh (.lst p.2)] ρ1) fun ρ2 => Q .nx ρ2 := by
  unfold sStar; repeat (first | rfl | exact wp_ok | exact wp_bind | exact wp_lift | (rw [wp_bind]; refine R.wp_ext fun _ _ => ?_) | (rw [wp_lift]; refine owp_ext fun _ => ?_))
@[simp] theorem pickQ_l {fl ft : List D → Option RV} {xs : List D} : pickQ fl ft (.lst xs) = some fl := rfl
@[simp] theorem pickQ_t {fl ft : List D → Option RV} {xs : List D} : pickQ fl ft (.tup xs) = some ft := rfl
@[simp] theorem splitT_c {x : D} {xs : List D} : splitT (.tup (x :: xs)) = some (x, xs) := rfl
@[simp] theorem idxL_s {ys : List Str} {z : Str} : idxL [.lst (ys.map .str), .str z] = (idx1 z ys).map fun j => .val (.int (j : Nat)) := by simp [idxL, strsD_map]
@[simp] theorem idxT_s {ys : List Str} {z : Str} : idxT [.tup (ys.map .str), .str z] = (idx1 z ys).map fun j => .val (.int (j : Nat)) := by simp [idxT, strsD_map]
@[simp] theorem int_b {b : Bool} : intD [.bl b] = some (.val (.int (if b then 1 else 0))) := rfl
@[simp] theorem int_i {i : Int} : intD [.int i] = some (.val (.int i)) := rfl
theorem idx1_mem {z : Str} : ∀ {ys : List Str}, z ∈ ys → ∃ j, idx1 z ys = some j ∧ j < ys.length ∧ ys[j]? = some z ∧ ∀ m, m < j → ys[m]? ≠ some z
  | [], h => by cases h
  | y :: ys, h => by
    by_cases e : y = z
    · exact ⟨0, by simp [idx1, e], by simp, by simp [e], fun m hm => by omega⟩
    · obtain ⟨j, h1, h2, _⟩ := idx1_mem (z := z) (ys := ys) ((List.mem_cons.mp h).resolve_left fun q => e q.symm)
      have h3 : idx1 z (y :: ys) = some (j + 1) := by simp [idx1, e, h1]
      exact ⟨j + 1, h3, by simp [h2], idx1_some h3⟩
/-- the least of some texts (nothing of none) -/
def minS (ys : List Str) : Str := match ys with
  | [] => Str.empty
  | y :: ys => PySem.W.minOf y ys
theorem minS_mem {ys : List Str} (h : ys ≠ []) : minS ys ∈ ys := by
  cases ys with
  | nil => exact absurd rfl h
  | cons y ys => exact minOf_mem y ys
theorem minT_s {ys : List Str} (h : ys ≠ []) : minT (ys.map .str) = some (.val (.str (minS ys))) := by
  cases ys with
  | nil => exact absurd rfl h
  | cons y ys => simp [minT, strsD_map, minS, strsD]
theorem minD_l {ys : List Str} (h : ys ≠ []) : minD [.lst (ys.map .str)] = some (.val (.str (minS ys))) := minT_s h
theorem minD_t {ys : List Str} (h : ys ≠ []) : minD [.tup (ys.map .str)] = some (.val (.str (minS ys))) := minT_s h
theorem cutD_drop {α : Type} {xs : List α} {i : Nat} : cutD xs (some (i : Int)) none = xs.drop i := by
  unfold cutD
  simp only [HT.sIx_none, HT.sIx_nat]
  rw [List.take_of_length_le (by simp)]
  by_cases h : i ≤ xs.length
  · rw [Nat.min_eq_left h]
  · rw [Nat.min_eq_right (by omega), List.drop_length, List.drop_eq_nil_of_le (by omega)]
end RF
end
section
/-! RO: sets, orders, dicts: the pure side. -/
namespace RF
open PySem L2
theorem intsD_map : ∀ l : List Int, intsD (l.map .int) = some l
  | [] => rfl
  | x :: l => by simp [intsD, intsD_map l]
@[simp] theorem set_t {ss : List Str} : setD [.tup (ss.map .str)] = if ss.length < 900 then some (.fresh (.set ((dedS ss).map .str))) else none := by
  simp [setD, setOfD, strsD_map]
@[simp] theorem set_l {ss : List Str} : setD [.lst (ss.map .str)] = if ss.length < 900 then some (.fresh (.set ((dedS ss).map .str))) else none := by
  simp [setD, setOfD, strsD_map]
@[simp] theorem len_set {xs : List D} : lenD [.set xs] = if xs.length < 1000 then some (.val (.int xs.length)) else none := rfl
@[simp] theorem is_bb {a b : Bool} : isND [.bl a, .bl b] = some (.val (.bl (decide (a = b)))) := rfl
@[simp] theorem isnot_bb {a b : Bool} : isNotND [.bl a, .bl b] = some (.val (.bl (!decide (a = b)))) := rfl
@[simp] theorem len_iset {l : List Int} : lenD [.iset l] = some (.val (.int l.length)) := rfl
@[simp] theorem ext_t {xs ys : List D} : extendM (.lst xs) [.tup ys] = if xs.length + ys.length ≤ cap then some (.val .non, .lst (xs ++ ys)) else none := rfl
theorem dedS_len_eq {l : List Str} (h : l.Nodup) : (dedS l).length = l.length :=
  (List.perm_ext_iff_of_nodup (dedS_nd l) h |>.mpr fun a => dedS_mem).length_eq
theorem sortI_set {l : List Int} (h : l.Pairwise (· < ·)) : sortI (dedI l) = l := (sortI_of (dedI_nd l) h fun k => dedI_mem.symm).symm
/-- sorted(set(a rising row of ints)) -/
theorem sorted_set_ints {l : List Int} (h : l.Pairwise (· < ·)) (hl : l.length < 64) : ∃ c, setD [.lst (l.map .int)] = some (.fresh c) ∧ sortedD [c] = some (.fresh (.lst (l.map .int))) := by
  cases l with
  | nil => exact ⟨.set [], rfl, by have := sorted_strs_s (ss := []); simpa [sortS] using this⟩
  | cons x l =>
    have hd := dedI_len (x :: l)
    have h0 : strsD ((x :: l).map D.int) = none := rfl
    refine ⟨.iset (dedI (x :: l)), ?_, ?_⟩
    · show setOfD ((x :: l).map D.int) = _
      unfold setOfD
      rw [h0, intsD_map, if_pos (by rw [List.length_map]; omega)]
    · show (if (dedI (x :: l)).length < 64 then some (RV.fresh (.lst ((sortI (dedI (x :: l))).map .int))) else none) = _
      rw [if_pos (by omega), sortI_set h]
theorem leD1_way {a b : Str × Str} : leD1 (wayD a) (wayD b) = (if b.1 = a.1 then (if b.2 = a.2 then true else !decide (b.2.cps.toList < a.2.cps.toList)) else !decide (b.1.cps.toList < a.1.cps.toList)) := by
  have e : leD1 (wayD a) (wayD b) = !PySem.W.dataLt (.tuple [.str b.1, .str b.2]) (.tuple [.str a.1, .str a.2]) := rfl
  rw [e, PySem.W.dataLt_pair rfl rfl, PySem.W.dataLt_str, PySem.W.dataLt_str]
  have q : ∀ x y : Str, PyData.eqv (.str x) (.str y) = decide (x = y) := fun x y => by simp [PyData.eqv, beq_dec]
  rw [q, q]
  by_cases h1 : b.1 = a.1 <;> by_cases h2 : b.2 = a.2 <;> simp [h1, h2]
theorem cps_lt_total {x y : Str} (h : x ≠ y) : x.cps.toList < y.cps.toList ∨ y.cps.toList < x.cps.toList := by
  rcases Classical.em (x.cps.toList < y.cps.toList) with h1 | h1
  · exact .inl h1
  · rcases Classical.em (y.cps.toList < x.cps.toList) with h2 | h2
    · exact .inr h2
    · exact absurd (str_ext (List.le_antisymm (List.not_lt.mp h2) (List.not_lt.mp h1))) h
theorem leD1_anti_way {a b : Str × Str} (h1 : leD1 (wayD a) (wayD b) = true) (h2 : leD1 (wayD b) (wayD a) = true) : a = b := by
  rw [leD1_way] at h1 h2
  by_cases e1 : b.1 = a.1
  · by_cases e2 : b.2 = a.2
    · exact Prod.ext e1.symm e2.symm
    · rw [if_pos e1, if_neg e2] at h1
      rw [if_pos e1.symm, if_neg fun z => e2 z.symm] at h2
      rcases cps_lt_total e2 with h | h
      · simp [h] at h1
      · simp [h] at h2
  · rw [if_neg e1] at h1
    rw [if_neg fun z => e1 z.symm] at h2
    rcases cps_lt_total e1 with h | h
    · simp [h] at h1
    · simp [h] at h2
theorem sortW_eq {l l' : List (Str × Str)} (p : l'.Perm l) : sortW l' = sortW l := by
  refine List.Perm.eq_of_pairwise (le := fun a b => leD1 (wayD a) (wayD b) = true) (fun a b _ _ h1 h2 => leD1_anti_way h1 h2) ?_ ?_ ((sortW_perm l').trans (p.trans (sortW_perm l).symm))
  · have := PySem.W.sort_pairwise leD1_total (l'.map wayD)
    rw [show (l'.map wayD).mergeSort leD1 = sortD (l'.map wayD) from rfl, sortD_ways, List.pairwise_map] at this
    exact this
  · have := PySem.W.sort_pairwise leD1_total (l.map wayD)
    rw [show (l.map wayD).mergeSort leD1 = sortD (l.map wayD) from rfl, sortD_ways, List.pairwise_map] at this
    exact this
/-! ### the least text -/
theorem minOf_le : ∀ (ys : List Str) (y : Str), ∀ x ∈ y :: ys, ¬ x.cps.toList < (PySem.W.minOf y ys).cps.toList
  | [], y, x, hx => by
    simp at hx; subst hx
    exact List.lt_irrefl _
  | z :: ys, y, x, hx => by
    have e : PySem.W.minOf y (z :: ys) = PySem.W.minOf (if z.cps.toList < y.cps.toList then z else y) ys := by
      unfold PySem.W.minOf
      rw [List.foldl_cons]
      have : (PySem.W.DatumOrd.lt z y = true) = (z.cps.toList < y.cps.toList) := by
        have := PySem.W.DatumOrd.lt_eq z y
        have e2 : PySem.W.dataLt (.str z) (.str y) = PySem.W.DatumOrd.lt z y := this
        rw [PySem.W.dataLt_str] at e2
        rw [← e2]; simp
      simp only [this]
    rw [e]
    have ih := minOf_le ys (if z.cps.toList < y.cps.toList then z else y)
    intro hlt
    rcases List.mem_cons.mp hx with rfl | hx
    · by_cases hz : z.cps.toList < x.cps.toList
      · rw [if_pos hz] at hlt ih
        exact ih z List.mem_cons_self (List.lt_trans hz hlt)
      · rw [if_neg hz] at hlt ih
        exact ih x List.mem_cons_self hlt
    · rcases List.mem_cons.mp hx with rfl | hx
      · by_cases hz : x.cps.toList < y.cps.toList
        · rw [if_pos hz] at hlt ih
          exact ih x List.mem_cons_self hlt
        · rw [if_neg hz] at hlt ih
          exact ih y List.mem_cons_self (by
            rcases Classical.em (x = y) with e | e
            · exact e ▸ hlt
            · rcases cps_lt_total e with h | h
              · exact absurd h hz
              · exact List.lt_trans h hlt)
      · exact ih x (List.mem_cons_of_mem _ hx) hlt
theorem minS_le {ys : List Str} {x : Str} (hx : x ∈ ys) : ¬ x.cps.toList < (minS ys).cps.toList := by
  cases ys with
  | nil => cases hx
  | cons y ys => exact minOf_le ys y x hx
/-- the least is the same in whatever turn -/
theorem minS_perm {l l' : List Str} (p : l.Perm l') : minS l = minS l' := by
  cases l with
  | nil => have := p.length_eq; cases l' with
    | nil => rfl
    | cons _ _ => simp at this
  | cons y ys =>
    have hne : y :: ys ≠ [] := by simp
    have hne' : l' ≠ [] := fun e => by subst e; have := p.length_eq; simp at this
    have h1 := minS_mem hne
    have h2 := minS_mem hne'
    have a := minS_le (p.mem_iff.mp h1)
    have b := minS_le (p.symm.mem_iff.mp h2)
    rcases Classical.em (minS (y :: ys) = minS l') with e | e
    · exact e
    · rcases cps_lt_total e with h | h
      · exact absurd h a
      · exact absurd h b
end RF
end
section
/-! RQ: dicts by texts, wide numbers: the pure side. -/
namespace RF
open PySem L2
theorem owp_mono {α : Type} {o : Option α} {P P' : α → Prop} (h : owp o P) (k : ∀ a, P a → P' a) : owp o P' := by
  cases o with
  | none => rw [owp_none] at h; exact h.elim
  | some a => rw [owp_some] at h ⊢; exact k a h
/-- the dict of ks by f -/
abbrev dicF (ks : List Str) (f : Str → D) : D := .dic (ks.map .str) (ks.map f)
theorem getDic_f {f : Str → D} {k : Str} : ∀ {ks : List Str}, k ∈ ks → getDic (ks.map .str) (ks.map f) (.inr k) = some (f k)
  | [], h => by cases h
  | x :: ks, h => by
    have e0 : keyD (.str x) = some (.inr x) := rfl
    show (if keyD (.str x) = some (.inr k) then some (f x) else getDic (ks.map .str) (ks.map f) (.inr k)) = some (f k)
    by_cases e : x = k
    · rw [if_pos (by rw [e0, e]), e]
    · rw [if_neg (by rw [e0]; simp [e])]
      exact getDic_f ((List.mem_cons.mp h).resolve_left fun q => e q.symm)
theorem ix_dicF {ks : List Str} {f : Str → D} {k : Str} (h : k ∈ ks) : ixD [.dic (ks.map .str) (ks.map f), .str k] = some (.val (f k)) := by
  simp [ixD, keyD, getDic_f h]
theorem keysD_strs : ∀ ks : List Str, keysD (ks.map .str) = some (ks.map Sum.inr)
  | [] => rfl
  | k :: ks => by simp [keysD, keyD, keysD_strs ks]
theorem keyOf_strs (ks : List Str) : (ks.map (Sum.inr : Str → Key)).map keyOf = ks.map .str := by simp [keyOf]
theorem hasK_strs {ks : List Str} {k : Str} : hasK (.inr k) (ks.map Sum.inr) = decide (k ∈ ks) := by
  rw [Bool.eq_iff_iff, hasK_iff]; simp
theorem putV1_f {k : Str} {v : D} {f : Str → D} : ∀ {ks : List Str}, putV1 (.inr k) v (ks.map Sum.inr) (ks.map f) = ks.map fun x => if x = k then v else f x
  | [] => rfl
  | x :: ks => by
    simp only [List.map_cons, putV1, putV1_f (ks := ks)]
    congr 1
    by_cases e : x = k <;> simp [e]
theorem put_dicF {ks : List Str} {f : Str → D} {k : Str} {v : D} (h : k ∈ ks) (hl : ks.length < cap) : putDic (.dic (ks.map .str) (ks.map f)) (.str k) v = some (.dic (ks.map .str) (ks.map fun x => if x = k then v else f x)) := by
  simp only [putDic, keysD_strs, keyD, putP, hasK_strs]
  rw [if_pos (by rw [List.length_map]; exact hl), if_pos (by simp [h])]
  simp only [keyOf_strs, putV1_f]
theorem put_dicN {ks : List Str} {f : Str → D} {k : Str} (h : k ∉ ks) (hl : ks.length < cap) : putDic (.dic (ks.map .str) (ks.map f)) (.str k) (f k) = some (.dic ((ks ++ [k]).map .str) ((ks ++ [k]).map f)) := by
  simp only [putDic, keysD_strs, keyD, putP, hasK_strs]
  rw [if_pos (by rw [List.length_map]; exact hl), if_neg (by simp [h])]
  simp [keyOf]
@[simp] theorem setAt_d {ks vs : List D} {kd d : D} : setAtD (.dic ks vs) kd d = putDic (.dic ks vs) kd d := by
  unfold setAtD; rfl
theorem pairsD_f {f : Str → D} : ∀ ks : List Str, pairsD (ks.map fun k => .tup [.str k, f k]) = some (ks.map fun k => (Sum.inr k, f k))
  | [] => rfl
  | k :: ks => by simp [pairsD, keyD, pairsD_f ks]
theorem mergeD_f {f : Str → D} : ∀ {ks pre : List Str}, (pre ++ ks).Nodup → mergeD (ks.map fun k => ((Sum.inr k : Key), f k)) (pre.map Sum.inr, pre.map f) = ((pre ++ ks).map Sum.inr, (pre ++ ks).map f)
  | [], pre, _ => by simp [mergeD]
  | k :: ks, pre, h => by
    have hk : k ∉ pre := fun m => (List.nodup_append.mp h).2.2 k m k List.mem_cons_self rfl
    have ih := mergeD_f (f := f) (ks := ks) (pre := pre ++ [k]) (by simpa using h)
    unfold mergeD at ih ⊢
    rw [List.map_cons, List.foldl_cons]
    have e : putP (Sum.inr k : Key) (f k) (pre.map Sum.inr) (pre.map f) = ((pre ++ [k]).map Sum.inr, (pre ++ [k]).map f) := by
      unfold putP
      rw [hasK_strs, if_neg (by simp [hk])]; simp
    simp only [e, ih, List.append_assoc, List.cons_append, List.nil_append]
theorem dict_f {ks : List Str} {f : Str → D} (h : ks.Nodup) : dictD [.lst (ks.map fun k => .tup [.str k, f k])] = some (.fresh (.dic (ks.map .str) (ks.map f))) := by
  simp only [dictD, pairsD_f, Option.map_some]
  have := mergeD_f (f := f) (ks := ks) (pre := []) h
  simp only [List.map_nil, List.nil_append] at this
  rw [this]
  simp only [keyOf_strs]
/-- {k: f(k) for k in ks} -/
theorem wp_dcF {mk mv : ME} {g : Tg} {vs : List Nat} {it : MI} {ks : List Str} {f : Str → D} {ρ : Env} {Q : D → Env → Prop} (nd : ks.Nodup) (hl : ks.length < cap)
    (hs : ∀ k ∈ ks, owp (g.put (.str k) ρ) fun ρ1 => (eKeep mk ρ1).wp fun o ρ2 => owp (asV o) fun kd => kd = .str k ∧ (eKeep mv ρ2).wp fun o2 ρ3 => o2 = .val (f k) ∧ wipeE ρ3 vs = ρ)
    (hd : Q (.dic (ks.map .str) (ks.map f)) ρ) : wLoop (emDp mk mv) ⟨it, g, RF.tYes, vs⟩ (ks.map .str) (.dic [] []) ρ Q := by
  refine wp_loopC (fun i acc ρ' => acc = .dic ((ks.take i).map .str) ((ks.take i).map f) ∧ ρ' = ρ) ⟨rfl, rfl⟩ ?_ ?_
  · rintro i d acc ρ' hi ⟨rfl, rfl⟩
    rw [List.getElem?_map] at hi
    obtain ⟨k, hk, rfl⟩ := Option.map_eq_some_iff.mp hi
    have h := hs k (List.mem_of_getElem? hk)
    have hlt := (List.getElem?_eq_some_iff.mp hk).1
    have hn : k ∉ ks.take i := by
      intro hm
      obtain ⟨j, hj, e⟩ := List.mem_iff_getElem.mp hm
      rw [List.length_take] at hj
      rw [List.getElem_take] at e
      have h1 : ks[j]? = some k := by rw [List.getElem?_eq_getElem (by omega), e]
      have := (List.getElem?_inj (by omega) nd).mp (h1.trans hk.symm)
      omega
    refine owp_mono h fun ρ1 h => ?_
    show (RF.tYes ρ1).wp _
    unfold RF.tYes
    rw [wp_ok]
    simp only [if_true]
    rw [wp_emDp]
    refine R.wp_mono h fun o ρ2 h => owp_mono h fun kd h => ?_
    obtain ⟨rfl, h⟩ := h
    refine R.wp_mono h fun o2 ρ3 h => ?_
    obtain ⟨rfl, h⟩ := h
    simp only [asV, owp_some]
    rw [put_dicN hn (by rw [List.length_take]; omega), owp_some, stk_at hk]
    exact ⟨rfl, h⟩
  · rintro acc ρ' ⟨rfl, rfl⟩
    rw [List.length_map, List.take_length]
    exact hd
theorem mul_w {i j : Int} {a b : Nat} (ha : i.natAbs < 2 ^ a) (hb : j.natAbs < 2 ^ b) (h0 : 0 < a) (h1 : 0 < b) (h : a + b ≤ 1000000) : mulD [.int i, .int j] = some (.val (.int (i * j))) := by
  have := wide_mul ha hb h0 h1 h
  unfold CMulW at this
  have h2 : wideB i j = true := decide_eq_true this
  simp only [mul_ii, h2, Bool.or_true, if_true]
/-! ### len, str, f-texts -/
@[simp] theorem lenX_l {tb : List (Str × FunSem × List Pm)} {xs : List D} : lenX tb [.lst xs] = lenD [.lst xs] := rfl
@[simp] theorem lenX_t {tb : List (Str × FunSem × List Pm)} {xs : List D} : lenX tb [.tup xs] = lenD [.tup xs] := rfl
@[simp] theorem lenX_s {tb : List (Str × FunSem × List Pm)} {s : Str} : lenX tb [.str s] = lenD [.str s] := rfl
@[simp] theorem lenX_e {tb : List (Str × FunSem × List Pm)} {xs : List D} : lenX tb [.set xs] = lenD [.set xs] := rfl
@[simp] theorem lenX_d {tb : List (Str × FunSem × List Pm)} {ks xs : List D} : lenX tb [.dic ks xs] = lenD [.dic ks xs] := rfl
@[simp] theorem strX_i {tb : List (Str × FunSem × List Pm)} {i : Int} : strX tb [.int i] = if intOk i then some (.val (.str (intS i))) else none := rfl
@[simp] theorem strX_s {tb : List (Str × FunSem × List Pm)} {s : Str} : strX tb [.str s] = some (.val (.str s)) := rfl
@[simp] theorem fmt_i {i : Int} : fmtD [.int i] = if intOk i then some (.val (.str (intS i))) else none := rfl
@[simp] theorem fmt_s {s : Str} : fmtD [.str s] = some (.val (.str s)) := rfl
@[simp ↓] theorem wp_goF0 {acc : Str} {ρ : Env} {Q : OV → Env → Prop} : (goF [] acc ρ).wp Q = Q (.val (.str acc)) ρ := wp_ok
@[simp ↓] theorem wp_goF1 {m : ME} {ms : List ME} {acc : Str} {ρ : Env} {Q : OV → Env → Prop} : (goF (m :: ms) acc ρ).wp Q = (m ρ).wp fun o ρ1 => owp (asS o) fun y => if (acc ++ y).length ≤ cap then (goF ms (acc ++ y) ρ1).wp Q else False := by
  simp only [goF]
  rw [wp_bind]
  refine R.wp_ext fun o ρ1 => ?_
  rw [wp_lift]
  refine owp_ext fun y => ?_
  split <;> simp
@[simp ↓] theorem wp_eFst {ms : List ME} {ρ : Env} {Q : OV → Env → Prop} : (eFst ms ρ).wp Q = (goF ms Str.empty ρ).wp Q := rfl
theorem intOk_small {n : Nat} (h : n ≤ 100) : intOk (n : Int) = true := by
  have : ∀ n : Fin 101, intOk (n.val : Int) = true := by decide +kernel
  exact this ⟨n, by omega⟩
theorem intS_len {n : Nat} (h : n ≤ 100) : (intS (n : Int)).length ≤ 3 := by
  have : ∀ n : Fin 101, (intS (n.val : Int)).length ≤ 3 := by decide +kernel
  exact this ⟨n, by omega⟩
end RF
end
section
/-! RR: rows of texts as data; while; rings: the pure side. -/
namespace RF
open PySem L2
/-! ### while -/
theorem wp_while {t : MT} {b : MS} {Q : Fl → Env → Prop} (I : Nat → Env → Prop)
    (hs : ∀ n ρ, I n ρ → (t ρ).wp fun k ρ1 => if k then (b ρ1).wp fun f ρ2 => match f with
      | .nx => ∃ m, m < n ∧ I m ρ2 | .ct => ∃ m, m < n ∧ I m ρ2 | .bk => Q .nx ρ2 | .rt o => Q (.rt o) ρ2 else Q .nx ρ1) :
    ∀ {n N : Nat} {ρ : Env}, I n ρ → n < N → (sWhile N t b ρ).wp Q := by
  unfold sWhile
  intro n N
  induction N generalizing n with
  | zero => intro ρ _ h; omega
  | succ N ih =>
    intro ρ h hn
    have z := hs n ρ h
    simp only [goWhile]
    rw [wp_bind]
    refine R.wp_mono z fun k ρ1 q => ?_
    cases k with
    | false => simp only [wp_ok]; simpa using q
    | true =>
      simp only [if_true] at q
      simp only
      rw [wp_bind]
      refine R.wp_mono q fun f ρ2 q => ?_
      cases f with
      | nx => obtain ⟨m, hm, q⟩ := q; exact ih q (by omega)
      | ct => obtain ⟨m, hm, q⟩ := q; exact ih q (by omega)
      | bk => simp only [wp_ok]; exact q
      | rt o => simp only [wp_ok]; exact q
/-! ### rows of texts -/
def rwD (r : List Str) : D := .tup (r.map .str)
def rpD (r : List Str) : D := .tup [.int (r.length : Nat), rwD r]
theorem eqbs_strs : ∀ {a b : List Str}, eqbs (a.map .str) (b.map .str) = decide (a = b)
  | [], [] => rfl
  | [], y :: b => by simp [eqbs]
  | x :: a, [] => by simp [eqbs]
  | x :: a, y :: b => by
    simp only [List.map_cons, eqbs, eqb_str, eqbs_strs (a := a) (b := b), List.cons.injEq]
    by_cases h1 : x = y <;> by_cases h2 : a = b <;> simp [h1, h2]
theorem eqb_rw {a b : List Str} : eqb (rwD a) (rwD b) = decide (a = b) := by simp only [rwD, eqb, eqbs_strs]
theorem plain_rw {a : List Str} : plain (rwD a) = true := by simp [rwD, plain, plains_strs]
theorem dep_rw {a : List Str} : dep (rwD a) = 1 := by simp [rwD, dep, deps_strs]
theorem plains_mp {α : Type} {f : α → D} (h : ∀ a, plain (f a) = true) : ∀ xs : List α, plains (xs.map f) = true
  | [] => rfl
  | x :: xs => by simp [plains, h x, plains_mp h xs]
theorem deps_mp {α : Type} {f : α → D} {n : Nat} (h : ∀ a, dep (f a) ≤ n) : ∀ xs : List α, deps (xs.map f) ≤ n
  | [] => by simp [deps]
  | x :: xs => by
    have h1 := h x
    have h2 := deps_mp h xs
    simp only [List.map_cons, deps]; omega
theorem eqbs_mp {α : Type} {f : α → D} (h : ∀ a, eqb (f a) (f a) = true) : ∀ xs : List α, eqbs (xs.map f) (xs.map f) = true
  | [] => rfl
  | x :: xs => by simp [eqbs, h x, eqbs_mp h xs]
theorem dep_rws {rs : List (List Str)} : dep (.tup (rs.map rwD)) ≤ 2 := by
  have := deps_mp (f := rwD) (n := 1) (fun a => by rw [dep_rw]; omega) rs
  simp only [dep]; omega
theorem plain_rws {rs : List (List Str)} : plain (.tup (rs.map rwD)) = true := by simp [plain, plains_mp (f := rwD) fun a => plain_rw]
theorem eq_rws {rs : List (List Str)} : eqD [.tup (rs.map rwD), .tup (rs.map rwD)] = some (.val (.bl true)) := by
  have h1 := plain_rws (rs := rs)
  have h2 := dep_rws (rs := rs)
  have h3 : eqb (.tup (rs.map rwD)) (.tup (rs.map rwD)) = true := by simp only [eqb]; exact eqbs_mp (fun a => by simp [eqb_rw]) rs
  simp [eqD, h1, h3, show dep (.tup (rs.map rwD)) ≤ 60 by omega]
theorem ne_rws {rs : List (List Str)} : neD [.tup (rs.map rwD), .tup (rs.map rwD)] = some (.val (.bl false)) := by
  have h1 := plain_rws (rs := rs)
  have h2 := dep_rws (rs := rs)
  have h3 : eqb (.tup (rs.map rwD)) (.tup (rs.map rwD)) = true := by simp only [eqb]; exact eqbs_mp (fun a => by simp [eqb_rw]) rs
  simp [neD, h1, h3, show dep (.tup (rs.map rwD)) ≤ 60 by omega]
theorem ne_rw {a b : List Str} : neD [rwD a, rwD b] = some (.val (.bl (!decide (a = b)))) := by
  simp [neD, plain_rw, eqb_rw, dep_rw]
theorem in_rws_t {r : List Str} {rs : List (List Str)} : inB [rwD r, .tup (rs.map rwD)] = some (decide (r ∈ rs)) := by
  have h := deps_mp (f := rwD) (n := 1) (fun a => by rw [dep_rw]; omega) rs
  simp [inB, plain_rw, plains_mp (f := rwD) fun a => plain_rw, dep_rw, any_dec (f := rwD) (fun a b => eqb_rw), show min (deps (rs.map rwD)) 1 ≤ 60 by omega]
/-! ### rows sorted by length -/
def leR (a b : List Str) : Bool := leD1 (rpD a) (rpD b)
def sortR (rs : List (List Str)) : List (List Str) := rs.mergeSort leR
theorem sortR_perm (rs : List (List Str)) : (sortR rs).Perm rs := List.mergeSort_perm _ _
theorem sortD_prs {rs : List (List Str)} : sortD (rs.map rpD) = (sortR rs).map rpD := by
  unfold sortD sortR
  exact (List.map_mergeSort (r := leR) (s := leD1) (f := rpD) (fun a _ b _ => rfl)).symm
theorem alike_strs : ∀ a b : List Str, PySem.W.alikeAll (pds (a.map .str)) (pds (b.map .str)) = true
  | [], b => by simp [pds, PySem.W.alikeAll]
  | x :: a, [] => by simp [pds, PySem.W.alikeAll]
  | x :: a, y :: b => by simp [pds, pd, PySem.W.alikeAll, PySem.W.alike, alike_strs a b]
theorem sortOk_prs (rs : List (List Str)) : sortOk (rs.map rpD) = true := by
  have h1 : ∀ a, plain (rpD a) = true := fun a => by simp [rpD, plain, plains, plain_rw]
  have h2 := deps_mp (f := rpD) (n := 2) (fun a => by simp [rpD, dep, deps, dep_rw]) rs
  unfold sortOk
  simp only [Bool.and_eq_true, plains_mp h1, decide_eq_true_eq]
  refine ⟨⟨⟨trivial, ?_⟩, ?_⟩, by omega⟩
  · simp only [List.all_eq_true, List.mem_map]
    rintro x ⟨a, _, rfl⟩ y ⟨b, _, rfl⟩
    simp [rpD, rwD, pd, pds, PySem.W.alike, PySem.W.alikeAll, alike_strs]
  · simp only [Bool.or_eq_true]
    left
    simp only [List.all_eq_true, List.mem_map]
    rintro x ⟨a, _, rfl⟩
    rfl
theorem sorted_prs {rs : List (List Str)} : sortedD [.lst (rs.map rpD)] = some (.fresh (.lst ((sortR rs).map rpD))) := by
  simp [sortedD, sortOk_prs, sortD_prs]
theorem rowLt_strs : ∀ xs ys : List Str, PySem.W.rowLt (pds (xs.map .str)) (pds (ys.map .str)) = false → PySem.W.rowLt (pds (ys.map .str)) (pds (xs.map .str)) = false → xs = ys
  | [], [] => fun _ _ => rfl
  | [], y :: ys => fun h _ => by
    exfalso
    have e : PySem.W.rowLt [] (PyData.str y :: pds (ys.map .str)) = true := by
      unfold PySem.W.rowLt
      rw [PySem.W.toks_all_cons]
      simp only [PySem.W.keyToksAll]
      rw [PyProof.Rows.lex_diff (O := PyProof.Rows.itemOrd) (by simp)]
      rfl
    exact absurd (h.symm.trans e) (by simp)
  | x :: xs, [] => fun _ h => by
    exfalso
    have e : PySem.W.rowLt [] (PyData.str x :: pds (xs.map .str)) = true := by
      unfold PySem.W.rowLt
      rw [PySem.W.toks_all_cons]
      simp only [PySem.W.keyToksAll]
      rw [PyProof.Rows.lex_diff (O := PyProof.Rows.itemOrd) (by simp)]
      rfl
    exact absurd (h.symm.trans e) (by simp)
  | x :: xs, y :: ys => fun h1 h2 => by
    have e : ∀ (x y : Str) (xs ys : List PyData), PySem.W.rowLt (PyData.str x :: xs) (PyData.str y :: ys) = if x = y then PySem.W.rowLt xs ys else decide (x.cps.toList < y.cps.toList) := by
      intro x y xs ys
      unfold PySem.W.rowLt
      rw [PySem.W.dataLt_cons (by simp [PySem.W.alike]), PySem.W.dataLt_str]
      simp only [PyData.eqv, beq_iff_eq]
    have h1' := (e x y (pds (xs.map .str)) (pds (ys.map .str))).symm.trans h1
    have h2' := (e y x (pds (ys.map .str)) (pds (xs.map .str))).symm.trans h2
    by_cases h : x = y
    · rw [if_pos h] at h1'
      rw [if_pos h.symm] at h2'
      rw [h, rowLt_strs xs ys h1' h2']
    · rw [if_neg h] at h1'
      rw [if_neg fun q => h q.symm] at h2'
      rcases cps_lt_total h with q | q
      · simp [q] at h1'
      · simp [q] at h2'
theorem leR_anti {a b : List Str} (h1 : leR a b = true) (h2 : leR b a = true) : a = b := by
  have e : ∀ a b : List Str, leR a b = !PySem.W.dataLt (.tuple [.int (b.length : Nat), .tuple (pds (b.map .str))]) (.tuple [.int (a.length : Nat), .tuple (pds (a.map .str))]) := fun a b => by
    simp only [leR, leD1, PySem.W.dataLe_eq, cond_false, rpD, rwD, pd, pds]
  have al : ∀ a b : List Str, PySem.W.alike (.tuple (pds (a.map .str))) (.tuple (pds (b.map .str))) = true := fun a b => by simp [PySem.W.alike, alike_strs]
  rw [e, PySem.W.dataLt_pair rfl (al _ _), PySem.W.dataLt_int] at h1 h2
  have q : ∀ x y : Int, PyData.eqv (.int x) (.int y) = decide (x = y) := fun x y => by simp [PyData.eqv, beq_dec]
  rw [q] at h1 h2
  have hl : (a.length : Int) = b.length := by
    by_cases hl : (a.length : Int) = b.length
    · exact hl
    · have hl' : ¬ (b.length : Int) = a.length := fun z => hl z.symm
      simp only [hl, hl', decide_false, Bool.false_eq_true, if_false, Bool.not_eq_true', decide_eq_false_iff_not] at h1 h2
      omega
  simp only [hl, decide_true, if_true] at h1 h2
  have t : ∀ a b : List Str, PyData.eqv (.tuple (pds (a.map .str))) (.tuple (pds (b.map .str))) = decide (a = b) := fun a b => by
    have := eqb_eqv (rwD a) (rwD b) plain_rw plain_rw
    rw [eqb_rw] at this
    exact this.symm
  rw [t] at h1 h2
  by_cases hab : a = b
  · exact hab
  · have hba : ¬ b = a := fun z => hab z.symm
    simp only [hab, hba, decide_false, Bool.false_eq_true, if_false, Bool.not_eq_true'] at h1 h2
    exact (rowLt_strs a b h2 h1)
/-- unlike rows in order -/
structure Rs (P : List Str → Prop) (rs : List (List Str)) : Prop where
  nd : rs.Nodup
  so : rs.Pairwise fun a b => leR a b = true
  mem : ∀ r, r ∈ rs ↔ P r
theorem Rs.uniq {P : List Str → Prop} {rs ss : List (List Str)} (h : Rs P rs) (k : Rs P ss) : rs = ss :=
  List.Perm.eq_of_pairwise (le := fun a b => leR a b = true) (fun a b _ _ h1 h2 => leR_anti h1 h2) h.so k.so ((List.perm_ext_iff_of_nodup h.nd k.nd).mpr fun r => (h.mem r).trans (k.mem r).symm)
theorem Rs.filter {P : List Str → Prop} {rs : List (List Str)} (h : Rs P rs) (p : List Str → Bool) : Rs (fun r => P r ∧ p r = true) (rs.filter p) :=
  ⟨h.nd.filter _, h.so.filter _, fun r => by rw [List.mem_filter, h.mem]⟩
theorem Rs.of {P : List Str → Prop} {rs : List (List Str)} (nd : rs.Nodup) (mem : ∀ r, r ∈ rs ↔ P r) : Rs P (sortR rs) :=
  ⟨(sortR_perm rs).nodup_iff.mpr nd, by
    have := PySem.W.sort_pairwise leD1_total (rs.map rpD)
    rw [show (rs.map rpD).mergeSort leD1 = sortD (rs.map rpD) from rfl, sortD_prs, List.pairwise_map] at this
    exact this, fun r => (sortR_perm rs).mem_iff.trans (mem r)⟩
theorem Rs.iff {P P' : List Str → Prop} {rs : List (List Str)} (h : Rs P rs) (e : ∀ r, P r ↔ P' r) : Rs P' rs := ⟨h.nd, h.so, fun r => (h.mem r).trans (e r)⟩
end RF
end
section
/-! RR2: rings of ways: the pure side. -/
namespace RF
open PySem L2
theorem sub_len {α : Type} [DecidableEq α] : ∀ {l m : List α}, l.Nodup → (∀ x ∈ l, x ∈ m) → l.length ≤ m.length
  | [], m, _, _ => by simp
  | a :: l, m, nd, h => by
    have nd' := List.nodup_cons.mp nd
    have ha := h a List.mem_cons_self
    have := sub_len (l := l) (m := m.erase a) nd'.2 fun x hx => by
      have hne : x ≠ a := fun e => nd'.1 (e ▸ hx)
      exact (List.mem_erase_of_ne hne).mpr (h x (List.mem_cons_of_mem _ hx))
    rw [List.length_erase_of_mem ha] at this
    have hp : 0 < m.length := List.length_pos_of_mem ha
    simp only [List.length_cons]; omega
/-- the ways of a row -/
def wys : List Str → List (Str × Str)
  | a :: b :: r => (a, b) :: wys (b :: r)
  | _ => []
theorem wys_mid {x : Str} {r : List Str} : ∀ {l : List Str}, wys (l ++ x :: r) = wys (l ++ [x]) ++ wys (x :: r)
  | [] => by simp [wys]
  | [a] => by simp [wys]
  | a :: b :: l => by
    have h := wys_mid (x := x) (r := r) (l := b :: l)
    simp only [List.cons_append] at h ⊢
    rw [wys, wys, h]; rfl
theorem wys_len : ∀ {l : List Str}, (wys l).length = l.length - 1
  | [] => rfl
  | [a] => rfl
  | a :: b :: l => by
    have h := wys_len (l := b :: l)
    rw [wys, List.length_cons, h]; simp
theorem wys_get : ∀ {l : List Str} {k : Nat} {a b : Str}, l[k]? = some a → l[k + 1]? = some b → (wys l)[k]? = some (a, b)
  | [], k, a, b, h, _ => by simp at h
  | [x], k, a, b, _, h => by simp at h
  | x :: y :: l, 0, a, b, h1, h2 => by simp at h1 h2; subst h1 h2; rfl
  | x :: y :: l, k + 1, a, b, h1, h2 => by
    rw [wys]
    simpa using wys_get (l := y :: l) (k := k) (by simpa using h1) (by simpa using h2)
theorem wys_two {a b : Str} : wys [a, b] = [(a, b)] := rfl
theorem wys_rev : ∀ l : List Str, wys l.reverse = ((wys l).map Prod.swap).reverse
  | [] => rfl
  | [a] => rfl
  | a :: b :: l => by
    have h := wys_rev (b :: l)
    rw [List.reverse_cons, List.reverse_cons, List.append_assoc, List.cons_append, List.nil_append, wys_mid, ← List.reverse_cons, h]
    simp [wys]
theorem wys_map {f : Str → Str} : ∀ l : List Str, wys (l.map f) = (wys l).map fun w => (f w.1, f w.2)
  | [] => rfl
  | [a] => rfl
  | a :: b :: l => by
    have h := wys_map (f := f) (b :: l)
    simp only [List.map_cons] at h ⊢
    rw [wys, wys, h]; rfl
theorem wys_fst {x : Str} : ∀ {l : List Str} {y : Str}, x ∈ l → ∃ w ∈ wys (l ++ [y]), w.1 = x
  | [], y, h => by cases h
  | [a], y, h => ⟨(a, y), by simp [wys], by simp at h; exact h.symm⟩
  | a :: b :: l, y, h => by
    rcases List.mem_cons.mp h with rfl | h
    · exact ⟨(x, b), by simp [wys], rfl⟩
    · obtain ⟨w, hw, e⟩ := wys_fst (l := b :: l) (y := y) h
      exact ⟨w, by simp only [List.cons_append] at hw ⊢; rw [wys]; exact List.mem_cons_of_mem _ hw, e⟩
theorem wys_mem : ∀ {l : List Str} {w : Str × Str}, w ∈ wys l → w.1 ∈ l ∧ w.2 ∈ l
  | [], w, h => by cases h
  | [a], w, h => by cases h
  | a :: b :: l, w, h => by
    rw [wys] at h
    rcases List.mem_cons.mp h with rfl | h
    · simp
    · obtain ⟨h1, h2⟩ := wys_mem h
      exact ⟨List.mem_cons_of_mem _ h1, List.mem_cons_of_mem _ h2⟩
/-- the ways of a row, closed -/
def cyc (r : List Str) : List (Str × Str) := wys (r ++ r.take 1)
theorem cyc_cons {a : Str} {t : List Str} : cyc (a :: t) = wys (a :: t ++ [a]) := rfl
theorem cyc_rot {A B : List Str} {w : Str × Str} : w ∈ cyc (A ++ B) ↔ w ∈ cyc (B ++ A) := by
  cases A with
  | nil => simp
  | cons a A => cases B with
    | nil => simp
    | cons b B =>
      have h1 : cyc (a :: A ++ b :: B) = wys (a :: A ++ [b]) ++ wys (b :: B ++ [a]) := by
        show wys (a :: A ++ b :: B ++ [a]) = _
        rw [List.append_assoc, List.cons_append (as := B), wys_mid]
      have h2 : cyc (b :: B ++ a :: A) = wys (b :: B ++ [a]) ++ wys (a :: A ++ [b]) := by
        show wys (b :: B ++ a :: A ++ [b]) = _
        rw [List.append_assoc, List.cons_append (as := A), wys_mid]
      rw [h1, h2, List.mem_append, List.mem_append]
      exact or_comm
theorem cyc_fst {x : Str} {r : List Str} (h : x ∈ r) : ∃ w ∈ cyc r, w.1 = x := by
  cases r with
  | nil => cases h
  | cons a t => exact wys_fst h
theorem cyc_mem {r : List Str} {w : Str × Str} (h : w ∈ cyc r) : w.1 ∈ r ∧ w.2 ∈ r := by
  have h' := wys_mem h
  have t : ∀ x, x ∈ r ++ r.take 1 → x ∈ r := fun x hx => by
    rcases List.mem_append.mp hx with hx | hx
    · exact hx
    · exact List.mem_of_mem_take hx
  exact ⟨t _ h'.1, t _ h'.2⟩
theorem cyc_map {f : Str → Str} {r : List Str} : cyc (r.map f) = (cyc r).map fun w => (f w.1, f w.2) := by
  unfold cyc
  rw [← List.map_take, ← List.map_append, wys_map]
theorem cyc_rev {r : List Str} {w : Str × Str} : w ∈ cyc r.reverse ↔ w.swap ∈ cyc r := by
  cases r with
  | nil => simp [cyc, wys]
  | cons a t =>
    have e1 : w ∈ cyc (a :: t).reverse ↔ w ∈ cyc (a :: t.reverse) := by
      rw [List.reverse_cons]
      exact cyc_rot
    rw [e1, cyc_cons, cyc_cons]
    have e2 : a :: t.reverse ++ [a] = (a :: t ++ [a]).reverse := by simp
    rw [e2, wys_rev, List.mem_reverse, List.mem_map]
    constructor
    · rintro ⟨v, hv, rfl⟩; simpa using hv
    · intro h; exact ⟨w.swap, h, by simp⟩
/-- closed rows, rings: closed ones with their least place first -/
structure Clo (ws : List (Str × Str)) (r : List Str) : Prop where
  ne : r ≠ []
  nd : r.Nodup
  al : ∀ w ∈ cyc r, w ∈ ws
def ltS' (x y : Str) : Prop := x.cps.toList < y.cps.toList
theorem ltS'_trans {x y z : Str} (h : ltS' x y) (k : ltS' y z) : ltS' x z := List.lt_trans h k
theorem ltS'_irr {x : Str} : ¬ ltS' x x := List.lt_irrefl _
/-- the first is the least -/
def Low (r : List Str) : Prop := ∃ a t, r = a :: t ∧ ∀ x ∈ t, ltS' a x
structure Ring (ws : List (Str × Str)) (r : List Str) : Prop where
  clo : Clo ws r
  low : Low r
/-- turned -/
def IsRot (u v : List Str) : Prop := ∃ A B, u = A ++ B ∧ v = B ++ A
theorem IsRot.symm {u v : List Str} (h : IsRot u v) : IsRot v u := by obtain ⟨A, B, h1, h2⟩ := h; exact ⟨B, A, h2, h1⟩
theorem IsRot.perm {u v : List Str} (h : IsRot u v) : u.Perm v := by obtain ⟨A, B, rfl, rfl⟩ := h; exact List.perm_append_comm
theorem IsRot.clo {ws : List (Str × Str)} {u v : List Str} (h : IsRot u v) (k : Clo ws u) : Clo ws v := by
  obtain ⟨A, B, rfl, rfl⟩ := h
  refine ⟨fun e => k.ne (by simp at e; simp [e]), (List.perm_append_comm.nodup_iff).mp k.nd, fun w hw => k.al w (cyc_rot.mp hw)⟩
theorem IsRot.trans {u v w : List Str} (h : IsRot u v) (k : IsRot v w) : IsRot u w := by
  obtain ⟨A, B, rfl, e⟩ := h
  obtain ⟨C, D, e1, rfl⟩ := k
  rw [e] at e1
  rcases List.append_eq_append_iff.mp e1 with ⟨X, h1, h2⟩ | ⟨X, h1, h2⟩
  · exact ⟨X, D ++ B, by rw [h2]; simp, by rw [h1]; simp⟩
  · exact ⟨A ++ C, X, by rw [h1]; simp, by rw [h2]; simp⟩
/-- two turns of one row, each with its least first, are one -/
theorem low_uniq {u v : List Str} (h : IsRot u v) (nd : u.Nodup) (hu : Low u) (hv : Low v) : u = v := by
  obtain ⟨A, B, rfl, rfl⟩ := h
  cases A with
  | nil => simp
  | cons a A => cases B with
    | nil => simp
    | cons b B =>
      exfalso
      obtain ⟨x, t, e, hx⟩ := hu
      obtain ⟨y, s, e', hy⟩ := hv
      simp only [List.cons_append, List.cons.injEq] at e e'
      have h1 := hx b (by rw [← e.2]; simp)
      have h2 := hy a (by rw [← e'.2]; simp)
      rw [← e.1] at h1
      rw [← e'.1] at h2
      exact ltS'_irr (ltS'_trans h1 h2)
/-- the row from its least place on -/
def rot (l : List Str) : List Str := match idx1 (minS l) l with
  | some j => l.drop j ++ l.take j
  | none => l
theorem rot_eq {l : List Str} (h : l ≠ []) : ∃ j, idx1 (minS l) l = some j ∧ j < l.length ∧ l[j]? = some (minS l) ∧ rot l = l.drop j ++ l.take j := by
  obtain ⟨j, h1, h2, h3, _⟩ := idx1_mem (minS_mem h)
  exact ⟨j, h1, h2, h3, by simp [rot, h1]⟩
theorem rot_is {l : List Str} (h : l ≠ []) : IsRot l (rot l) := by
  obtain ⟨j, _, _, _, e⟩ := rot_eq h
  exact ⟨l.take j, l.drop j, (List.take_append_drop _ _).symm, e⟩
theorem rot_head {l : List Str} (h : l ≠ []) : ∃ t, rot l = minS l :: t := by
  obtain ⟨j, _, h2, h3, e⟩ := rot_eq h
  refine ⟨l.drop (j + 1) ++ l.take j, ?_⟩
  obtain ⟨hj, q⟩ := List.getElem?_eq_some_iff.mp h3
  rw [e, List.drop_eq_getElem_cons hj, q]; rfl
theorem rot_low {l : List Str} (h : l ≠ []) (nd : l.Nodup) : Low (rot l) := by
  obtain ⟨t, e⟩ := rot_head h
  refine ⟨_, t, e, fun x hx => ?_⟩
  have p := (rot_is h).perm
  have hm : x ∈ l := p.mem_iff.mpr (by rw [e]; exact List.mem_cons_of_mem _ hx)
  have nd' : (rot l).Nodup := p.nodup_iff.mp nd
  rw [e] at nd'
  have hne : x ≠ minS l := fun q => (List.nodup_cons.mp nd').1 (q ▸ hx)
  rcases cps_lt_total hne with q | q
  · exact absurd q (minS_le hm)
  · exact q
theorem rot_ring {ws : List (Str × Str)} {l : List Str} (h : Clo ws l) : Ring ws (rot l) := ⟨(rot_is h.ne).clo h, rot_low h.ne h.nd⟩
theorem rot_of {l r : List Str} (h : IsRot l r) (nd : r.Nodup) (k : Low r) : rot l = r := by
  have hne : l ≠ [] := fun e => by
    have := h.perm.length_eq
    obtain ⟨a, t, rfl, _⟩ := k
    rw [e] at this; simp at this
  have ndl := h.perm.nodup_iff.mpr nd
  exact low_uniq ((rot_is hne).symm.trans h) ((rot_is hne).perm.nodup_iff.mp ndl) (rot_low hne ndl) k
theorem Ring.rot {ws : List (Str × Str)} {r : List Str} (h : Ring ws r) : RF.rot r = r := rot_of ⟨[], r, rfl, by simp⟩ h.clo.nd h.low
theorem Low.min {r : List Str} (h : Low r) : ∃ t, r = minS r :: t := by
  obtain ⟨a, t, rfl, hx⟩ := h
  have hm := minS_mem (ys := a :: t) (by simp)
  refine ⟨t, ?_⟩
  rcases List.mem_cons.mp hm with e | e
  · rw [e]
  · exact absurd (hx _ e) (minS_le List.mem_cons_self)
/-- rings under what turns rows to rows and back -/
theorem ring_turn {ws vs : List (Str × Str)} {P : List Str → Prop} (ψ : List Str → List Str) (h1 : ∀ r, Ring ws r → Clo vs (ψ r)) (h2 : ∀ r, Ring vs r → Clo ws (ψ r)) (hr : ∀ u v, IsRot u v → IsRot (ψ u) (ψ v))
    (b1 : ∀ r, Ring ws r → ψ (ψ r) = r) (b2 : ∀ r, Ring vs r → ψ (ψ r) = r) {rs : List (List Str)} (k : Rs (Ring ws) rs) : Rs (Ring vs) (sortR (rs.map fun r => rot (ψ r))) := by
  have back : ∀ {ws vs : List (Str × Str)}, (∀ r, Ring ws r → Clo vs (ψ r)) → (∀ r, Ring ws r → ψ (ψ r) = r) → ∀ r, Ring ws r → rot (ψ (rot (ψ r))) = r := fun h b r hr' => by
    have c := h r hr'
    have i := hr _ _ (rot_is c.ne)
    rw [b r hr'] at i
    exact rot_of i.symm hr'.clo.nd hr'.low
  refine Rs.of ?_ fun r => ?_
  · rw [List.nodup_iff_pairwise_ne, List.pairwise_map]
    refine List.Pairwise.imp_of_mem ?_ (List.nodup_iff_pairwise_ne.mp k.nd)
    intro a b ha hb hab e
    have e1 := back h1 b1 a ((k.mem a).mp ha)
    rw [e, back h1 b1 b ((k.mem b).mp hb)] at e1
    exact hab e1.symm
  · rw [List.mem_map]
    constructor
    · rintro ⟨a, ha, rfl⟩
      exact rot_ring (h1 a ((k.mem a).mp ha))
    · intro hr'
      exact ⟨rot (ψ r), (k.mem _).mpr (rot_ring (h2 r hr')), back h2 b2 r hr'⟩
end RF
end
section
/-! RR3: rings found by going on: the pure side. -/
namespace RF
open PySem L2
section
variable {ns : List Str} {ws : List (Str × Str)} {b : Str}
/-- where ways lead from p -/
def onw (ws : List (Str × Str)) (p : Str) : List Str := ((sortW ws).filter fun w => decide (w.1 = p)).map Prod.snd
theorem onw_mem {p q : Str} : q ∈ onw ws p ↔ (p, q) ∈ ws := by
  unfold onw
  rw [List.mem_map]
  constructor
  · rintro ⟨w, hw, rfl⟩
    rw [List.mem_filter, decide_eq_true_eq] at hw
    obtain ⟨h1, rfl⟩ := hw
    exact (sortW_perm ws).mem_iff.mp h1
  · intro h
    exact ⟨(p, q), List.mem_filter.mpr ⟨(sortW_perm ws).mem_iff.mpr h, by simp⟩, rfl⟩
theorem onw_nd (h : ws.Nodup) {p : Str} : (onw ws p).Nodup := by
  unfold onw
  have nd : ((sortW ws).filter fun w => decide (w.1 = p)).Nodup := ((sortW_perm ws).nodup_iff.mpr h).filter _
  rw [List.nodup_iff_pairwise_ne, List.pairwise_map]
  refine List.Pairwise.imp_of_mem ?_ (List.nodup_iff_pairwise_ne.mp nd)
  intro x y hx hy hxy e
  rw [List.mem_filter, decide_eq_true_eq] at hx hy
  exact hxy (Prod.ext (hx.2.trans hy.2.symm) e)
def lst1 (row : List Str) : Str := row.getLastD ""
theorem lst1_snoc {l : List Str} {x : Str} : lst1 (l ++ [x]) = x := by simp [lst1]
def kidB (b : Str) (row : List Str) (q : Str) : Bool := ltS b q && decide (q ∉ row)
def kidsP (ws : List (Str × Str)) (b : Str) (row : List Str) : List Str := (onw ws (lst1 row)).filter (kidB b row)
def kids (ws : List (Str × Str)) (b : Str) (row : List Str) : List (List Str) := (kidsP ws b row).map fun q => row ++ [q]
def hit (ws : List (Str × Str)) (b : Str) (row : List Str) : List (List Str) := if b ∈ onw ws (lst1 row) then [row] else []
/-- all rings that begin with row -/
def sub (ws : List (Str × Str)) (b : Str) : Nat → List Str → List (List Str)
  | 0, _ => []
  | n + 1, row => hit ws b row ++ (kids ws b row).reverse.flatMap (sub ws b n)
/-- a row from b on -/
structure Row (ns : List Str) (ws : List (Str × Str)) (b : Str) (row : List Str) : Prop where
  hd : ∃ t, row = b :: t ∧ ∀ x ∈ t, ltS' b x
  nd : row.Nodup
  inn : ∀ x ∈ row, x ∈ ns
  al : ∀ w ∈ wys row, w ∈ ws
theorem Row.ne {row : List Str} (h : Row ns ws b row) : row ≠ [] := by obtain ⟨t, rfl, _⟩ := h.hd; simp
theorem Row.last {row : List Str} (h : Row ns ws b row) : ∃ l, row = l ++ [lst1 row] := by
  refine ⟨row.dropLast, ?_⟩
  have e := List.dropLast_concat_getLast h.ne
  have e2 : lst1 row = row.getLast h.ne := by unfold lst1; rw [List.getLastD_eq_getLast?, List.getLast?_eq_some_getLast h.ne]; rfl
  rw [e2, e]
theorem kid_row (hin : ∀ w ∈ ws, w.1 ∈ ns ∧ w.2 ∈ ns) {row : List Str} (h : Row ns ws b row) {q : Str} (hq : (lst1 row, q) ∈ ws) (h1 : ltS' b q) (h2 : q ∉ row) : Row ns ws b (row ++ [q]) := by
  obtain ⟨t, e, ht⟩ := h.hd
  obtain ⟨l, el⟩ := h.last
  refine ⟨⟨t ++ [q], by rw [e]; rfl, fun x hx => ?_⟩, ?_, fun x hx => ?_, fun w hw => ?_⟩
  · rcases List.mem_append.mp hx with hx | hx
    · exact ht x hx
    · simp at hx; subst hx; exact h1
  · rw [List.nodup_append]
    exact ⟨h.nd, by simp, fun x hx y hy e => by simp at hy; subst hy e; exact h2 hx⟩
  · rcases List.mem_append.mp hx with hx | hx
    · exact h.inn x hx
    · simp at hx; subst hx; exact (hin _ hq).2
  · rw [el, List.append_assoc, List.cons_append, List.nil_append, wys_mid, List.mem_append] at hw
    rcases hw with hw | hw
    · exact h.al w (by rw [el]; exact hw)
    · rw [wys_two] at hw; simp at hw; subst hw; exact hq
theorem kidsP_mem {row : List Str} {q : Str} : q ∈ kidsP ws b row ↔ (lst1 row, q) ∈ ws ∧ ltS' b q ∧ q ∉ row := by
  unfold kidsP kidB
  rw [List.mem_filter, onw_mem, Bool.and_eq_true, decide_eq_true_eq, ltS, decide_eq_true_eq]; rfl
theorem kids_row (hin : ∀ w ∈ ws, w.1 ∈ ns ∧ w.2 ∈ ns) {row : List Str} (h : Row ns ws b row) : ∀ k ∈ kids ws b row, Row ns ws b k ∧ k.length = row.length + 1 := by
  intro k hk
  obtain ⟨q, hq, rfl⟩ := List.mem_map.mp hk
  obtain ⟨h1, h2, h3⟩ := kidsP_mem.mp hq
  exact ⟨kid_row hin h h1 h2 h3, by simp⟩
theorem kids_len (hin : ∀ w ∈ ws, w.1 ∈ ns ∧ w.2 ∈ ns) (wd : ws.Nodup) {row : List Str} (h : Row ns ws b row) : row.length + (kids ws b row).length ≤ ns.length := by
  have : (row ++ kidsP ws b row).Nodup := by
    rw [List.nodup_append]
    exact ⟨h.nd, (onw_nd wd).filter _, fun x hx y hy e => (kidsP_mem.mp hy).2.2 (e ▸ hx)⟩
  have := sub_len this (m := ns) fun x hx => by
    rcases List.mem_append.mp hx with hx | hx
    · exact h.inn x hx
    · exact (hin _ (kidsP_mem.mp hx).1).2
  simpa [kids] using this
theorem row_len {row : List Str} (h : Row ns ws b row) : 1 ≤ row.length ∧ row.length ≤ ns.length := by
  refine ⟨List.length_pos_iff.mpr h.ne, sub_len h.nd h.inn⟩
/-- how many there may be -/
def mM : Nat → Nat
  | 0 => 0
  | n + 1 => 1 + n * mM n
theorem mM_le {n : Nat} (h : n ≤ 8) : mM n ≤ 13700 := by
  have : ∀ n : Fin 9, mM n.val ≤ 13700 := by decide
  exact this ⟨n, by omega⟩
theorem flat_len {α : Type} {f : α → List (List Str)} {m : Nat} : ∀ {l : List α}, (∀ x ∈ l, (f x).length ≤ m) → (l.flatMap f).length ≤ l.length * m
  | [], _ => by simp
  | x :: l, h => by
    have h1 := h x List.mem_cons_self
    have h2 := flat_len (f := f) (m := m) (l := l) fun y hy => h y (List.mem_cons_of_mem _ hy)
    rw [List.flatMap_cons, List.length_append, List.length_cons, Nat.succ_mul]; omega
theorem sub_le (hin : ∀ w ∈ ws, w.1 ∈ ns ∧ w.2 ∈ ns) (wd : ws.Nodup) : ∀ (n : Nat) {row : List Str}, Row ns ws b row → ns.length + 1 - row.length = n → (sub ws b n row).length ≤ mM n
  | 0, row, _, _ => by simp [sub]
  | n + 1, row, h, e => by
    have hk := kids_len hin wd h
    have h1 : (hit ws b row).length ≤ 1 := by unfold hit; split <;> simp
    have h2 := flat_len (f := sub ws b n) (m := mM n) (l := (kids ws b row).reverse) fun k hk => by
      obtain ⟨a, c⟩ := kids_row hin h k (List.mem_reverse.mp hk)
      exact sub_le hin wd n a (by omega)
    rw [List.length_reverse] at h2
    have h3 : (kids ws b row).length * mM n ≤ n * mM n := Nat.mul_le_mul_right _ (by omega)
    simp only [sub, List.length_append, mM]; omega
theorem sub_sound (hin : ∀ w ∈ ws, w.1 ∈ ns ∧ w.2 ∈ ns) : ∀ (n : Nat) {row r : List Str}, Row ns ws b row → r ∈ sub ws b n row → (∃ e, r = row ++ e) ∧ Ring ws r
  | 0, row, r, _, h => by simp [sub] at h
  | n + 1, row, r, h, hr => by
    rcases List.mem_append.mp hr with hr | hr
    · unfold hit at hr
      split at hr
      · rename_i hb
        simp at hr; subst hr
        obtain ⟨t, e, ht⟩ := h.hd
        obtain ⟨l, el⟩ := h.last
        refine ⟨⟨[], by simp⟩, ⟨h.ne, h.nd, fun w hw => ?_⟩, b, t, e, ht⟩
        have e2 : cyc r = wys r ++ [(lst1 r, b)] := by
          have : cyc r = wys (r ++ [b]) := by unfold cyc; rw [e]; rfl
          rw [this]
          have : r ++ [b] = l ++ lst1 r :: [b] := by rw [el]; simp [lst1_snoc]
          rw [this, wys_mid, ← el, wys_two]
        rw [e2, List.mem_append] at hw
        rcases hw with hw | hw
        · exact h.al w hw
        · simp at hw; subst hw; exact onw_mem.mp hb
      · cases hr
    · obtain ⟨k, hk, hr⟩ := List.mem_flatMap.mp hr
      have hk := List.mem_reverse.mp hk
      obtain ⟨⟨e, he⟩, hR⟩ := sub_sound hin n (kids_row hin h k hk).1 hr
      obtain ⟨q, _, rfl⟩ := List.mem_map.mp hk
      exact ⟨⟨q :: e, by rw [he]; simp⟩, hR⟩
theorem sub_all (hin : ∀ w ∈ ws, w.1 ∈ ns ∧ w.2 ∈ ns) : ∀ (n : Nat) {row e : List Str}, Row ns ws b row → Ring ws (row ++ e) → e.length < n → row ++ e ∈ sub ws b n row
  | 0, row, e, _, _, h => by omega
  | n + 1, row, e, h, hR, hl => by
    obtain ⟨t, et, ht⟩ := h.hd
    obtain ⟨l, el⟩ := h.last
    cases e with
    | nil =>
      rw [List.append_nil] at hR ⊢
      refine List.mem_append_left _ ?_
      have : b ∈ onw ws (lst1 row) := by
        rw [onw_mem]
        refine hR.clo.al _ ?_
        have : cyc row = wys (row ++ [b]) := by unfold cyc; rw [et]; rfl
        rw [this]
        have : row ++ [b] = l ++ lst1 row :: [b] := by
          conv => lhs; rw [el]
          simp
        rw [this, wys_mid, List.mem_append]
        right; simp [wys]
      unfold hit; rw [if_pos this]; simp
    | cons q e =>
      refine List.mem_append_right _ (List.mem_flatMap.mpr ⟨row ++ [q], List.mem_reverse.mpr (List.mem_map.mpr ⟨q, ?_, rfl⟩), ?_⟩)
      · refine kidsP_mem.mpr ⟨hR.clo.al _ ?_, ?_, ?_⟩
        · have : cyc (row ++ q :: e) = wys (row ++ q :: e ++ [b]) := by unfold cyc; rw [et]; rfl
          rw [this]
          have : row ++ q :: e ++ [b] = l ++ lst1 row :: (q :: (e ++ [b])) := by
            conv => lhs; rw [el]
            simp
          rw [this, wys_mid, List.mem_append]
          right; simp [wys]
        · obtain ⟨a, s, es, hs⟩ := hR.low
          rw [et] at es
          simp only [List.cons_append, List.cons.injEq] at es
          rw [es.1]
          exact hs q (by rw [← es.2]; simp)
        · intro hq
          have := hR.clo.nd
          rw [List.nodup_append] at this
          exact this.2.2 q hq q List.mem_cons_self rfl
      · have e1 : row ++ q :: e = row ++ [q] ++ e := by simp
        rw [e1]
        refine sub_all hin n ?_ (e1 ▸ hR) (by simp at hl; omega)
        have hk : q ∈ kidsP ws b row := by
          refine kidsP_mem.mpr ⟨hR.clo.al _ ?_, ?_, ?_⟩
          · have : cyc (row ++ q :: e) = wys (row ++ q :: e ++ [b]) := by unfold cyc; rw [et]; rfl
            rw [this]
            have : row ++ q :: e ++ [b] = l ++ lst1 row :: (q :: (e ++ [b])) := by
              conv => lhs; rw [el]
              simp
            rw [this, wys_mid, List.mem_append]
            right; simp [wys]
          · obtain ⟨a, s, es, hs⟩ := hR.low
            rw [et] at es
            simp only [List.cons_append, List.cons.injEq] at es
            rw [es.1]
            exact hs q (by rw [← es.2]; simp)
          · intro hq
            have := hR.clo.nd
            rw [List.nodup_append] at this
            exact this.2.2 q hq q List.mem_cons_self rfl
        exact (kids_row hin h _ (List.mem_map.mpr ⟨q, hk, rfl⟩)).1
theorem flat_nd {α : Type} {f : α → List (List Str)} : ∀ {l : List α}, l.Nodup → (∀ x ∈ l, (f x).Nodup) → (∀ x ∈ l, ∀ y ∈ l, ∀ r, r ∈ f x → r ∈ f y → x = y) → (l.flatMap f).Nodup
  | [], _, _, _ => by simp
  | x :: l, nd, h1, h2 => by
    have nd' := List.nodup_cons.mp nd
    rw [List.flatMap_cons, List.nodup_append]
    refine ⟨h1 x List.mem_cons_self, flat_nd nd'.2 (fun y hy => h1 y (List.mem_cons_of_mem _ hy)) (fun y hy z hz => h2 y (List.mem_cons_of_mem _ hy) z (List.mem_cons_of_mem _ hz)), fun r hr s hs e => ?_⟩
    subst e
    obtain ⟨y, hy, hs⟩ := List.mem_flatMap.mp hs
    have := h2 x List.mem_cons_self y (List.mem_cons_of_mem _ hy) r hr hs
    exact nd'.1 (this ▸ hy)
theorem sub_nd (hin : ∀ w ∈ ws, w.1 ∈ ns ∧ w.2 ∈ ns) (wd : ws.Nodup) : ∀ (n : Nat) {row : List Str}, Row ns ws b row → (sub ws b n row).Nodup
  | 0, row, _ => by simp [sub]
  | n + 1, row, h => by
    have pre : ∀ k ∈ kids ws b row, ∀ r ∈ sub ws b n k, ∃ e, r = k ++ e := fun k hk r hr => (sub_sound hin n (kids_row hin h k hk).1 hr).1
    have kn : (kids ws b row).Nodup := by
      unfold kids
      rw [List.nodup_iff_pairwise_ne, List.pairwise_map]
      refine List.Pairwise.imp (fun hab e => hab ?_) (List.nodup_iff_pairwise_ne.mp ((onw_nd wd).filter (kidB b row)))
      simpa using e
    unfold sub
    rw [List.nodup_append]
    refine ⟨by unfold hit; split <;> simp, flat_nd ((List.reverse_perm _).nodup_iff.mpr kn) (fun k hk => sub_nd hin wd n (kids_row hin h k (List.mem_reverse.mp hk)).1) ?_, ?_⟩
    · intro x hx y hy r h1 h2
      have hx := List.mem_reverse.mp hx
      have hy := List.mem_reverse.mp hy
      obtain ⟨e1, p1⟩ := pre x hx r h1
      obtain ⟨e2, p2⟩ := pre y hy r h2
      have l1 := (kids_row hin h x hx).2
      have l2 := (kids_row hin h y hy).2
      exact (List.append_inj (p1.symm.trans p2) (by omega)).1
    · intro r hr s hs e
      subst e
      obtain ⟨k, hk, hs⟩ := List.mem_flatMap.mp hs
      have hk := List.mem_reverse.mp hk
      obtain ⟨e1, p1⟩ := pre k hk r hs
      have l1 := (kids_row hin h k hk).2
      unfold hit at hr
      split at hr
      · simp at hr
        have := congrArg List.length p1
        rw [List.length_append, hr] at this
        omega
      · cases hr
theorem row_one (hb : b ∈ ns) : Row ns ws b [b] := ⟨⟨[], rfl, by simp⟩, by simp, by simpa using hb, by simp [wys]⟩
theorem sub_mem (hin : ∀ w ∈ ws, w.1 ∈ ns ∧ w.2 ∈ ns) (hb : b ∈ ns) {r : List Str} : r ∈ sub ws b ns.length [b] ↔ Ring ws r ∧ ∃ t, r = b :: t := by
  constructor
  · intro h
    obtain ⟨⟨e, he⟩, hR⟩ := sub_sound hin _ (row_one hb) h
    exact ⟨hR, e, he⟩
  · rintro ⟨hR, t, rfl⟩
    refine sub_all (row := [b]) (e := t) hin _ (row_one hb) hR ?_
    have := sub_len hR.clo.nd (m := ns) fun x hx => by
      obtain ⟨w, hw, e⟩ := cyc_fst hx
      exact e ▸ (hin w (hR.clo.al w hw)).1
    rw [List.length_cons] at this
    omega
/-- all rings of a web -/
def allRg (ws : List (Str × Str)) (ps : List Str) : List (List Str) := ps.flatMap fun b => sub ws b ps.length [b]
theorem allRg_rs (hin : ∀ w ∈ ws, w.1 ∈ ns ∧ w.2 ∈ ns) (wd : ws.Nodup) (nd : ns.Nodup) : Rs (Ring ws) (sortR (allRg ws ns)) := by
  refine Rs.of (flat_nd nd (fun b hb => sub_nd hin wd _ (row_one hb)) ?_) fun r => ?_
  · intro x hx y hy r h1 h2
    obtain ⟨_, t1, e1⟩ := (sub_mem hin hx).mp h1
    obtain ⟨_, t2, e2⟩ := (sub_mem hin hy).mp h2
    rw [e1] at e2
    exact (List.cons.inj e2).1
  · unfold allRg
    rw [List.mem_flatMap]
    constructor
    · rintro ⟨b, hb, h⟩
      exact ((sub_mem hin hb).mp h).1
    · intro hR
      obtain ⟨a, t, e, _⟩ := hR.low
      have ha : a ∈ ns := by
        obtain ⟨w, hw, q⟩ := cyc_fst (x := a) (r := r) (by rw [e]; simp)
        exact q ▸ (hin w (hR.clo.al w hw)).1
      exact ⟨a, ha, (sub_mem hin ha).mpr ⟨hR, t, e⟩⟩
theorem allRg_len (hin : ∀ w ∈ ws, w.1 ∈ ns ∧ w.2 ∈ ns) (wd : ws.Nodup) (hl : ns.length ≤ 8) : (allRg ws ns).length ≤ 8 * 13700 := by
  have h1 := flat_len (f := fun b => sub ws b ns.length [b]) (m := 13700) (l := ns) fun b hb => Nat.le_trans (sub_le hin wd _ (row_one hb) (by simp)) (mM_le hl)
  have h2 : ns.length * 13700 ≤ 8 * 13700 := Nat.mul_le_mul_right _ hl
  exact Nat.le_trans h1 h2
end
end RF
end
section
/-! the defs as they compute; printed by gen.py -/
namespace K02
open PySem L2 RF
def cs : List Str := ["Web"]
def fs : List Str := []
def fl : List (Str × Str) := [("Web", "ways"), ("Web", "places")]

-- is_name(thing, sign): [false], level 1
def m_is_name : MS :=
  sSeq (sIf (tOr (tNot (tOf (eOp (isiD cs fs) [eVar 0, eC (.ty "str")]))) (tNot (tOf (eChain leD leD (eC (.int 1)) (eOp lenD [eVar 0]) (eC (.int 8))))))
    (sRet (eC (.bl false)))
    (sNil))
  (sRet (eOp allD [eLc [1] (iOf seqI [eVar 0]) (.nm 1) RF.tYes (eOp inD [eVar 1, eC (.str "abcdefghijklmnopqrstuvwxyz")])]))
@[irreducible] def f_is_name : FunSem := mkFun 2 [false] m_is_name
@[simp] theorem md_is_name : f_is_name.modes = [false] := by unfold f_is_name; rfl

-- is_way(thing): [false], level 2
def m_is_way : MS :=
  sRet (eAnd (eOp (isiD cs fs) [eVar 0, eC (.ty "tuple")]) (eAnd (eOp eqD [eOp lenD [eVar 0], eC (.int 2)]) (eAnd (eCall f_is_name [(eKeep (eOp ixD [eVar 0, eC (.int 0)]))]) (eCall f_is_name [(eKeep (eOp ixD [eVar 0, eC (.int 1)]))]))))
@[irreducible] def f_is_way : FunSem := mkFun 1 [false] m_is_way
@[simp] theorem md_is_way : f_is_way.modes = [false] := by unfold f_is_way; rfl

-- check_ways(ways, number, way): [false], level 3
def m_check_ways : MS :=
  sSeq (sIf (tOr (tNot (tOf (eOp (isiD cs fs) [eVar 0, eC (.ty "tuple")]))) (tOf (eOp gtD [eOp lenD [eVar 0], eC (.int 60)])))
    (sStop)
    (sNil))
  (sFor (.tp [1, 2]) (iOf enumI [eVar 0])
   (sIf (tOr (tNot (tOf (eCall f_is_way [(eKeep (eVar 2))]))) (tOf (eOp inD [eVar 2, eSl (eVar 0) none (some (eVar 1))])))
     (sStop)
     (sNil)))
@[irreducible] def f_check_ways : FunSem := mkFun 3 [false] m_check_ways
@[simp] theorem md_check_ways : f_check_ways.modes = [false] := by unfold f_check_ways; rfl

-- check_alone(alone, joined, number, name): [false, false], level 2
def m_check_alone : MS :=
  sSeq (sIf (tNot (tOf (eOp (isiD cs fs) [eVar 0, eC (.ty "tuple")])))
    (sStop)
    (sNil))
  (sFor (.tp [2, 3]) (iOf enumI [eVar 0])
   (sIf (tOr (tNot (tOf (eCall f_is_name [(eKeep (eVar 3))]))) (tOr (tOf (eOp inD [eVar 3, eVar 1])) (tOf (eOp inD [eVar 3, eSl (eVar 0) none (some (eVar 2))]))))
     (sStop)
     (sNil)))
@[irreducible] def f_check_alone : FunSem := mkFun 4 [false, false] m_check_alone
@[simp] theorem md_check_alone : f_check_alone.modes = [false, false] := by unfold f_check_alone; rfl

-- Web.__init__(self, ways, alone, joined, way, place, many): [true, false, false], level 4
def m_Web___init__ : MS :=
  sSeq (sExp (eCall f_check_ways [(eKeep (eVar 1))]))
  (sSeq (sSet 3 (eOp sortedD [eComp (.set []) (emSp (eVar 5)) ⟨iOf seqI [eVar 1], .nm 4, RF.tYes, [4, 5]⟩ [⟨iOf seqI [eVar 4], .nm 5, RF.tYes, [5]⟩]]))
  (sSeq (sExp (eCall f_check_alone [(eKeep (eVar 2)), (eKeep (eVar 3))]))
  (sSeq (sSet 6 (eOp addD [eOp lenD [eVar 3], eOp lenD [eVar 2]]))
  (sSeq (sIf (tNot (tOf (eChain leD leD (eC (.int 1)) (eVar 6) (eC (.int 16)))))
    (sStop)
    (sNil))
  (sSeq (sPutF fl 0 "ways" (eOp tupleD [eOp sortedD [eVar 1]]))
  (sPutF fl 0 "places" (eOp tupleD [eOp sortedD [eOp addD [eVar 3, eOp listD [eVar 2]]]])))))))
@[irreducible] def f_Web___init__ : FunSem := mkFun 7 [true, false, false] m_Web___init__
@[simp] theorem md_Web___init__ : f_Web___init__.modes = [true, false, false] := by unfold f_Web___init__; rfl

-- Web.__len__(self): [false], level 1
def m_Web___len__ : MS :=
  sRet (eOp lenD [eOp (fldD fl "places") [eVar 0]])
@[irreducible] def f_Web___len__ : FunSem := mkFun 1 [false] m_Web___len__
@[simp] theorem md_Web___len__ : f_Web___len__.modes = [false] := by unfold f_Web___len__; rfl

-- check_place(web, place): [false, false], level 1
def m_check_place : MS :=
  sIf (tOr (tNot (tOf (eOp (isiD cs fs) [eVar 1, eC (.ty "str")]))) (tOf (eOp notInD [eVar 1, eOp (fldD fl "places") [eVar 0]])))
   (sStop)
   (sNil)
@[irreducible] def f_check_place : FunSem := mkFun 2 [false, false] m_check_place
@[simp] theorem md_check_place : f_check_place.modes = [false, false] := by unfold f_check_place; rfl

-- Web.onward(self, place, one, other): [false, false], level 2
def m_Web_onward : MS :=
  sSeq (sExp (eCall f_check_place [(eKeep (eVar 0)), (eKeep (eVar 1))]))
  (sRet (eOp tupleD [eLc [2, 3] (iOf seqI [eOp (fldD fl "ways") [eVar 0]]) (.tp [2, 3]) (tOf (eOp eqD [eVar 2, eVar 1])) (eVar 3)]))
@[irreducible] def f_Web_onward : FunSem := mkFun 4 [false, false] m_Web_onward
@[simp] theorem md_Web_onward : f_Web_onward.modes = [false, false] := by unfold f_Web_onward; rfl

-- Web.__str__(self, rows, place): [false], level 3
def m_Web___str__ : MS :=
  sSeq (sSet 1 (eLst []))
  (sSeq (sFor (.nm 2) (iOf seqI [eOp (fldD fl "places") [eVar 0]])
    (sExp (eMut 1 appendM [eKeep (eMt joinM (eC (.str " ")) [eOp addD [eLst [eVar 2, eC (.str ">")], eOp listD [eMeth [("Web", f_Web_onward, [.arg 0])] "onward" (eKeep (eVar 0)) [(eKeep (eVar 2))]]]])])))
  (sRet (eMt joinM (eC (.str "\n")) [eVar 1])))
@[irreducible] def f_Web___str__ : FunSem := mkFun 3 [false] m_Web___str__
@[simp] theorem md_Web___str__ : f_Web___str__.modes = [false] := by unfold f_Web___str__; rfl

-- Web.__repr__(self): [false], level 1
def m_Web___repr__ : MS :=
  sRet (eFst [eC (.str "Web("), eOp fmtD [eOp lenD [eOp (fldD fl "places") [eVar 0]]], eC (.str " places, "), eOp fmtD [eOp lenD [eOp (fldD fl "ways") [eVar 0]]], eC (.str " ways)")])
@[irreducible] def f_Web___repr__ : FunSem := mkFun 1 [false] m_Web___repr__
@[simp] theorem md_Web___repr__ : f_Web___repr__.modes = [false] := by unfold f_Web___repr__; rfl

-- _law_purse(_law_script, _law_k, _law_cell): [false, false], level 1
def m__law_purse : MS :=
  sSeq (sSet 2 (eOp ixD [eOp addD [eSl (eVar 0) (some (eVar 1)) (some (eOp addD [eVar 1, eC (.int 1)])), eLst [eC (.int 0)]], eC (.int 0)]))
  (sSeq (sIf (tOr (tOf (eOp geD [eVar 2, eOp powD [eC (.int 10), eC (.int 18)]])) (tOf (eOp ltD [eVar 2, eC (.int 0)])))
    (sRet (eLst [eOp maxD [eVar 2, eOp subD [eOp negD [eC (.int 1)], eVar 2]], eC (.int 0)]))
    (sNil))
  (sRet (eLst [eC (.int 0), eOp addD [eC (.int 1), eOp modD [eOp addD [eOp mulD [eVar 2, eC (.int 48271)], eOp mulD [eOp mulD [eOp addD [eVar 1, eC (.int 1)], eC (.int 69621)], eOp addD [eVar 1, eC (.int 7)]]], eC (.int 2147483629)]]])))
@[irreducible] def f__law_purse : FunSem := mkFun 3 [false, false] m__law_purse
@[simp] theorem md__law_purse : f__law_purse.modes = [false, false] := by unfold f__law_purse; rfl

-- _law_take(_law_purse_here, _law_many, _law_found): [true, false], level 1
def m__law_take : MS :=
  sSeq (sIf (tOf (eOp eqD [eOp ixD [eVar 0, eC (.int 1)], eC (.int 0)]))
    (sSeq (sSet 2 (eOp modD [eOp ixD [eVar 0, eC (.int 0)], eVar 1]))
     (sSeq (sPutIx 0 (eC (.int 0)) (eOp fdivD [eOp ixD [eVar 0, eC (.int 0)], eVar 1]))
     (sRet (eVar 2))))
    (sNil))
  (sSeq (sPutIx 0 (eC (.int 1)) (eOp addD [eC (.int 1), eOp modD [eOp addD [eOp mulD [eOp ixD [eVar 0, eC (.int 1)], eC (.int 39373)], eC (.int 7919)], eC (.int 2147483587)]]))
  (sRet (eOp modD [eOp fdivD [eOp modD [eOp mulD [eOp ixD [eVar 0, eC (.int 1)], eC (.int 30269)], eC (.int 2147483563)], eC (.int 11)], eVar 1])))
@[irreducible] def f__law_take : FunSem := mkFun 3 [true, false] m__law_take
@[simp] theorem md__law_take : f__law_take.modes = [true, false] := by unfold f__law_take; rfl

-- _law_unlike(_law_purse_here, _law_many, _law_letters, _law_menu, _law_first, _law_way, _law_k, _law_stem, _law_at, _law_begin): [true, false], level 2
def m__law_unlike : MS :=
  sSeq (sSet 2 (eC (.str "abcdefghijklmnopqrstuvwxyz")))
  (sSeq (sSet 3 (eLst [eC (.str "set"), eC (.str "step"), eC (.str "walk"), eC (.str "back"), eC (.str "thread"), eC (.str "steps"), eC (.str "layers"), eC (.str "bare"), eC (.str "log"), eC (.str "orders"), eC (.str "told"), eC (.str "far"), eC (.str "many")]))
  (sSeq (sSet 3 (eOp addD [eVar 3, eLst [eC (.str "by"), eC (.str "paper"), eC (.str "none"), eC (.str "w"), eC (.str "x"), eC (.str "a"), eC (.str "b")]]))
  (sSeq (sParN [4, 5] [eCall f__law_take [(eVar 0), (eKeep (eC (.int 20)))], eCall f__law_take [(eVar 0), (eKeep (eC (.int 4)))]])
  (sSeq (sIf (tOf (eOp eqD [eVar 5, eC (.int 0)]))
    (sRet (eLc [6] (iOf range1I [eVar 1]) (.nm 6) RF.tYes (eOp ixD [eVar 3, eOp modD [eOp addD [eVar 4, eOp mulD [eC (.int 3), eVar 6]], eC (.int 20)]])))
    (sNil))
  (sSeq (sSet 7 (eMt joinM (eC (.str "")) [eLc [6] (iOf range1I [eCall f__law_take [(eVar 0), (eKeep (eC (.int 8)))]]) (.nm 6) RF.tYes (eOp ixD [eVar 2, eCall f__law_take [(eVar 0), (eKeep (eC (.int 26)))]])]))
  (sSeq (sParN [8, 9] [eCall f__law_take [(eVar 0), (eKeep (eOp addD [eOp lenD [eVar 7], eC (.int 1)]))], eCall f__law_take [(eVar 0), (eKeep (eC (.int 26)))]])
  (sRet (eLc [6] (iOf range1I [eVar 1]) (.nm 6) RF.tYes (eOp addD [eOp addD [eSl (eVar 7) none (some (eVar 8)), eOp ixD [eVar 2, eOp modD [eOp addD [eVar 9, eOp mulD [eC (.int 5), eVar 6]], eC (.int 26)]]], eSl (eVar 7) (some (eVar 8)) none])))))))))
@[irreducible] def f__law_unlike : FunSem := mkFun 10 [true, false] m__law_unlike
@[simp] theorem md__law_unlike : f__law_unlike.modes = [true, false] := by unfold f__law_unlike; rfl

-- _law_net(_law_purse_here, _law_most, _law_names, _law_thick, _law_lanes, _law_spot, _law_goal, _law_turn, _law_bound, _law_lane, _law_name): [true, false], level 3
def m__law_net : MS :=
  sSeq (sParN [2, 3] [eCall f__law_unlike [(eVar 0), (eKeep (eOp addD [eC (.int 1), eCall f__law_take [(eVar 0), (eKeep (eVar 1))]]))], eOp addD [eC (.int 1), eCall f__law_take [(eVar 0), (eKeep (eC (.int 3)))]]])
  (sSeq (sSet 4 (eLst []))
  (sSeq (sFor (.nm 5) (iOf seqI [eVar 2])
    (sExp (eMut 4 extendM [eLc [6] (iOf seqI [eVar 2]) (.nm 6) (tOf (eOp ltD [eCall f__law_take [(eVar 0), (eKeep (eC (.int 4)))], eVar 3])) (eTup [eVar 5, eVar 6])])))
  (sSeq (sSet 7 (eCall f__law_take [(eVar 0), (eKeep (eOp addD [eOp (lenX [("Web", f_Web___len__, [])]) [eVar 4], eC (.int 1)]))]))
  (sSeq (sSet 4 (eOp addD [eSl (eVar 4) (some (eVar 7)) none, eSl (eVar 4) none (some (eVar 7))]))
  (sSeq (sSet 8 (eOp addD [eLc [9] (iOf seqI [eVar 4]) (.nm 9) RF.tYes (eOp ixD [eVar 9, eC (.int 0)]), eLc [9] (iOf seqI [eVar 4]) (.nm 9) RF.tYes (eOp ixD [eVar 9, eC (.int 1)])]))
  (sRet (eTup [eVar 2, eVar 4, eLc [10] (iOf seqI [eVar 2]) (.nm 10) (tOf (eOp notInD [eVar 10, eVar 8])) (eVar 10)])))))))
@[irreducible] def f__law_net : FunSem := mkFun 11 [true, false] m__law_net
@[simp] theorem md__law_net : f__law_net.modes = [true, false] := by unfold f__law_net; rfl

-- _law_broad(_law_purse_here, _law_names, _law_lanes, _law_spot, _law_turn, _law_lane, _law_bound, _law_name): [true], level 3
def m__law_broad : MS :=
  sSeq (sParN [1, 2] [eCall f__law_unlike [(eVar 0), (eKeep (eOp addD [eC (.int 9), eCall f__law_take [(eVar 0), (eKeep (eC (.int 8)))]]))], eLst []])
  (sSeq (sFor (.nm 3) (iOf seqI [eVar 1])
    (sFor (.nm 4) (iOf range1I [eCall f__law_take [(eVar 0), (eKeep (eC (.int 4)))]])
      (sSeq (sSet 5 (eTup [eVar 3, eOp ixD [eVar 1, eCall f__law_take [(eVar 0), (eKeep (eOp (lenX [("Web", f_Web___len__, [])]) [eVar 1]))]]]))
       (sIf (tOf (eOp notInD [eVar 5, eVar 2]))
        (sExp (eMut 2 appendM [eKeep (eVar 5)]))
        (sNil)))))
  (sSeq (sSet 6 (eOp addD [eLc [5] (iOf seqI [eVar 2]) (.nm 5) RF.tYes (eOp ixD [eVar 5, eC (.int 0)]), eLc [5] (iOf seqI [eVar 2]) (.nm 5) RF.tYes (eOp ixD [eVar 5, eC (.int 1)])]))
  (sRet (eTup [eVar 1, eVar 2, eLc [7] (iOf seqI [eVar 1]) (.nm 7) (tOf (eOp notInD [eVar 7, eVar 6])) (eVar 7)]))))
@[irreducible] def f__law_broad : FunSem := mkFun 8 [true] m__law_broad
@[simp] theorem md__law_broad : f__law_broad.modes = [true] := by unfold f__law_broad; rfl

-- _law_drawn(_law_purse_here): [true], level 4
def m__law_drawn : MS :=
  sSeq (sIf (tOf (eOp eqD [eCall f__law_take [(eVar 0), (eKeep (eC (.int 6)))], eC (.int 5)]))
    (sRet (eCall f__law_broad [(eVar 0)]))
    (sNil))
  (sRet (eCall f__law_net [(eVar 0), (eKeep (eC (.int 6)))]))
@[irreducible] def f__law_drawn : FunSem := mkFun 1 [true] m__law_drawn
@[simp] theorem md__law_drawn : f__law_drawn.modes = [true] := by unfold f__law_drawn; rfl

-- _law_made(_law_purse_here, _law_lanes, _law_lone, _law_way): [true, false, false], level 6
def m__law_made : MS :=
  sSeq (sSet 3 (eCall f__law_take [(eVar 0), (eKeep (eC (.int 3)))]))
  (sSeq (sIf (tAnd (tOf (eOp eqD [eVar 2, eLst []])) (tOf (eOp eqD [eVar 3, eC (.int 0)])))
    (sRet (eMake f_Web___init__ "Web" [(eKeep (eOp tupleD [eVar 1]))] [.arg 0, .dft (.tup [])]))
    (sNil))
  (sSeq (sIf (tOf (eOp eqD [eVar 3, eC (.int 1)]))
    (sRet (eMake f_Web___init__ "Web" [(eKeep (eOp tupleD [eVar 2])), (eKeep (eOp tupleD [eVar 1]))] [.arg 1, .arg 0]))
    (sNil))
  (sRet (eMake f_Web___init__ "Web" [(eKeep (eOp tupleD [eVar 1])), (eKeep (eOp tupleD [eOp revD [eVar 2]]))] [.arg 0, .arg 1]))))
@[irreducible] def f__law_made : FunSem := mkFun 4 [true, false, false] m__law_made
@[simp] theorem md__law_made : f__law_made.modes = [true, false, false] := by unfold f__law_made; rfl

-- _law_goals(_law_lanes, _law_spot, _law_lane): [false, false], level 1
def m__law_goals : MS :=
  sRet (eOp tupleD [eOp sortedD [eLc [2] (iOf seqI [eVar 0]) (.nm 2) (tOf (eOp eqD [eOp ixD [eVar 2, eC (.int 0)], eVar 1])) (eOp ixD [eVar 2, eC (.int 1)])]])
@[irreducible] def f__law_goals : FunSem := mkFun 3 [false, false] m__law_goals
@[simp] theorem md__law_goals : f__law_goals.modes = [false, false] := by unfold f__law_goals; rfl

-- _law_text(_law_names, _law_lanes, _law_rows, _law_name): [false, false], level 2
def m__law_text : MS :=
  sSeq (sSet 2 (eLst []))
  (sSeq (sFor (.nm 3) (iOf seqI [eOp sortedD [eVar 0]])
    (sExp (eMut 2 appendM [eKeep (eMt joinM (eC (.str " ")) [eOp addD [eLst [eVar 3, eC (.str ">")], eOp listD [eCall f__law_goals [(eKeep (eVar 1)), (eKeep (eVar 3))]]]])])))
  (sRet (eMt joinM (eC (.str "\n")) [eVar 2])))
@[irreducible] def f__law_text : FunSem := mkFun 4 [false, false] m__law_text
@[simp] theorem md__law_text : f__law_text.modes = [false, false] := by unfold f__law_text; rfl

-- _law_values_right(_law_web, _law_names, _law_lanes, _law_lane): [false, false, false], level 5
def m__law_values_right : MS :=
  sSeq (sIf (tOr (tNot (tOf (eOp (isiD cs fs) [eOp (fldD fl "ways") [eVar 0], eC (.ty "tuple")]))) (tOf (eOp neD [eOp (fldD fl "ways") [eVar 0], eOp tupleD [eOp sortedD [eVar 2]]])))
    (sRet (eC (.bl false)))
    (sNil))
  (sSeq (sIf (tOr (tNot (tOf (eOp (isiD cs fs) [eOp (fldD fl "places") [eVar 0], eC (.ty "tuple")]))) (tOf (eOp neD [eOp (fldD fl "places") [eVar 0], eOp tupleD [eOp sortedD [eVar 1]]])))
    (sRet (eC (.bl false)))
    (sNil))
  (sSeq (sIf (tOr (tOf (eOp neD [eOp (lenX [("Web", f_Web___len__, [])]) [eVar 0], eOp (lenX [("Web", f_Web___len__, [])]) [eVar 1]])) (tOr (tOf (eOp isNotND [eOp (boolX cs [("Web", f_Web___len__, [])]) [eVar 0], eC (.bl true)])) (tOf (eOp neD [eOp (strX [("Web", f_Web___str__, [])]) [eVar 0], eCall f__law_text [(eKeep (eVar 1)), (eKeep (eVar 2))]]))))
    (sRet (eC (.bl false)))
    (sNil))
  (sSeq (sIf (tNot (tOf (eOp allD [eLc [3] (iOf seqI [eOp (fldD fl "ways") [eVar 0]]) (.nm 3) RF.tYes (eOp (isiD cs fs) [eVar 3, eC (.ty "tuple")])])))
    (sRet (eC (.bl false)))
    (sNil))
  (sRet (eOp eqD [eOp (reprX [("Web", f_Web___repr__, [])]) [eVar 0], eOp addD [eOp addD [eOp addD [eOp addD [eC (.str "Web("), eOp (strX [("Web", f_Web___str__, [])]) [eOp (lenX [("Web", f_Web___len__, [])]) [eVar 1]]], eC (.str " places, ")], eOp (strX [("Web", f_Web___str__, [])]) [eOp (lenX [("Web", f_Web___len__, [])]) [eVar 2]]], eC (.str " ways)")]])))))
@[irreducible] def f__law_values_right : FunSem := mkFun 4 [false, false, false] m__law_values_right
@[simp] theorem md__law_values_right : f__law_values_right.modes = [false, false, false] := by unfold f__law_values_right; rfl

-- Web.has(self, one, other): [false, false, false], level 2
def m_Web_has : MS :=
  sSeq (sExp (eCall f_check_place [(eKeep (eVar 0)), (eKeep (eVar 1))]))
  (sSeq (sExp (eCall f_check_place [(eKeep (eVar 0)), (eKeep (eVar 2))]))
  (sRet (eOp inD [eTup [eVar 1, eVar 2], eOp (fldD fl "ways") [eVar 0]])))
@[irreducible] def f_Web_has : FunSem := mkFun 3 [false, false, false] m_Web_has
@[simp] theorem md_Web_has : f_Web_has.modes = [false, false, false] := by unfold f_Web_has; rfl

-- _law_asked_right(_law_web, _law_names, _law_lanes, _law_spot, _law_told, _law_goal): [false, false, false], level 3
def m__law_asked_right : MS :=
  sSeq (sFor (.nm 3) (iOf seqI [eVar 1])
    (sSeq (sFor (.nm 4) (iOf seqI [eLst [eMeth [("Web", f_Web_onward, [.arg 0])] "onward" (eKeep (eVar 0)) [(eKeep (eVar 3))], eMeth [("Web", f_Web_onward, [.arg 0])] "onward" (eKeep (eVar 0)) [(eKeep (eVar 3))]]])
       (sIf (tOr (tNot (tOf (eOp (isiD cs fs) [eVar 4, eC (.ty "tuple")]))) (tOf (eOp neD [eVar 4, eCall f__law_goals [(eKeep (eVar 2)), (eKeep (eVar 3))]])))
         (sRet (eC (.bl false)))
         (sNil)))
     (sFor (.nm 5) (iOf seqI [eVar 1])
      (sFor (.nm 4) (iOf seqI [eLst [eMeth [("Web", f_Web_has, [.arg 0, .arg 1])] "has" (eKeep (eVar 0)) [(eKeep (eVar 3)), (eKeep (eVar 5))], eMeth [("Web", f_Web_has, [.arg 1, .arg 0])] "has" (eKeep (eVar 0)) [(eKeep (eVar 5)), (eKeep (eVar 3))]]])
        (sIf (tOr (tNot (tOf (eOp (isiD cs fs) [eVar 4, eC (.ty "bool")]))) (tOf (eOp neD [eVar 4, eOp inD [eTup [eVar 3, eVar 5], eVar 2]])))
          (sRet (eC (.bl false)))
          (sNil))))))
  (sRet (eC (.bl true)))
@[irreducible] def f__law_asked_right : FunSem := mkFun 6 [false, false, false] m__law_asked_right
@[simp] theorem md__law_asked_right : f__law_asked_right.modes = [false, false, false] := by unfold f__law_asked_right; rfl

-- law(_law_script, _law_first, _law_k, _law_purse_here, _law_names, _law_lanes, _law_lone, _law_web, _law_turn): [false], level 7
def m_law : MS :=
  sSeq (sSet 1 (eMake f_Web___init__ "Web" [(eKeep (eTup [eTup [eC (.str "a"), eC (.str "a")]]))] [.arg 0, .dft (.tup [])]))
  (sSeq (sIf (tOr (tOf (eOp neD [eOp (fldD fl "ways") [eVar 1], eTup [eTup [eC (.str "a"), eC (.str "a")]]])) (tOf (eOp neD [eOp (strX [("Web", f_Web___str__, [])]) [eVar 1], eC (.str "a > a")])))
    (sRet (eC (.bl false)))
    (sNil))
  (sSeq (sIf (tOf (eOp neD [eOp (reprX [("Web", f_Web___repr__, [])]) [eVar 1], eC (.str "Web(1 places, 1 ways)")]))
    (sRet (eC (.bl false)))
    (sNil))
  (sSeq (sFor (.nm 2) (iOf range1I [eOp maxD [eC (.int 2), eOp minD [eC (.int 6), eOp (lenX [("Web", f_Web___len__, [])]) [eVar 0]]]])
    (sSeq (sSet 3 (eCall f__law_purse [(eKeep (eVar 0)), (eKeep (eVar 2))]))
     (sSeq (sUnp (.tp [4, 5, 6]) (eCall f__law_drawn [(eVar 3)]))
     (sSeq (sSet 7 (eCall f__law_made [(eVar 3), (eKeep (eVar 5)), (eKeep (eVar 6))]))
     (sFor (.nm 8) (iOf range1I [eC (.int 2)])
      (sSeq (sIf (tNot (tOf (eCall f__law_values_right [(eKeep (eVar 7)), (eKeep (eVar 4)), (eKeep (eVar 5))])))
         (sRet (eC (.bl false)))
         (sNil))
       (sIf (tNot (tOf (eCall f__law_asked_right [(eKeep (eVar 7)), (eKeep (eVar 4)), (eKeep (eVar 5))])))
        (sRet (eC (.bl false)))
        (sNil))))))))
  (sRet (eOp eqD [eOp (lenX [("Web", f_Web___len__, [])]) [eVar 1], eC (.int 1)])))))
@[irreducible] def f_law : FunSem := mkFun 9 [false] m_law
@[simp] theorem md_law : f_law.modes = [false] := by unfold f_law; rfl
end K02
end
section
namespace K02
open PySem L2 RF
/-- a purse -/
structure Good (a b : Int) : Prop where
  a0 : 0 ≤ a
  b0 : 0 ≤ b
  b1 : b < 4294967296
def Pu (p : D) : Prop := ∃ a b, p = .lst [.int a, .int b] ∧ Good a b
theorem take_spec {p : D} {m : Int} (h : Pu p) (h0 : 0 < m) (h1 : m < 1000000000) : (f__law_take.run [p, .int m]).wp fun fr d outs => fr = false ∧ ∃ r p', d = .int r ∧ 0 ≤ r ∧ r < m ∧ outs = [p'] ∧ Pu p' := by
  obtain ⟨a, b, rfl, g⟩ := h
  have ha := g.a0
  have hb := g.b0
  have hb1 := g.b1
  simp [f__law_take, m__law_take, putS_val, atI, ixN, small64i]
  split
  · refine ⟨h0, ⟨h0, by omega⟩, Int.emod_nonneg _ (by omega), Int.emod_lt_of_pos _ h0, _, _, rfl, ⟨Int.ediv_nonneg ha (by omega), hb, hb1⟩⟩
  · refine ⟨h0, Int.emod_nonneg _ (by omega), Int.emod_lt_of_pos _ h0, _, _, rfl, ⟨ha, by omega, by omega⟩⟩
theorem int_at {ns : List Int} {lo hi : Option Int} : ∃ c, atI (cutD (ns.map D.int) lo hi ++ [D.int 0]) 0 = some (.int c) := by
  rw [at_nat (by omega)]
  cases e : cutD (ns.map D.int) lo hi with
  | nil => exact ⟨0, rfl⟩
  | cons x xs =>
    have m : x ∈ ns.map D.int := cutD_mem (lo := lo) (hi := hi) (by rw [e]; exact List.mem_cons_self)
    obtain ⟨c, _, rfl⟩ := List.mem_map.mp m
    exact ⟨c, rfl⟩
theorem purse_spec {ns : List Int} {k : Int} (h0 : 0 ≤ k) (h1 : k < 100) (hn : ns.length ≤ 63) : (f__law_purse.run [.lst (ns.map .int), .int k]).wp fun fr d outs => fr = true ∧ outs = [] ∧ Pu d := by
  have hl := cutD_len (xs := ns.map D.int) (lo := some k) (hi := some (k + 1))
  rw [List.length_map] at hl
  obtain ⟨c, hc⟩ := int_at (ns := ns) (lo := some k) (hi := some (k + 1))
  have hcap : (cutD (ns.map D.int) (some k) (some (k + 1))).length + 1 ≤ cap := by rw [cap_eq]; omega
  have h1c : 1 ≤ cap := by decide
  have h2c : 2 ≤ cap := by decide
  simp [f__law_purse, m__law_purse, putS_val, small64i, hcap, hc, h1c, h2c]
  split
  · exact ⟨_, _, rfl, by split <;> omega, by omega, by omega⟩
  · split
    · exact ⟨_, _, rfl, by split <;> omega, by omega, by omega⟩
    · refine ⟨Or.inl (by omega), _, _, rfl, by omega, by omega, by omega⟩
/-! ### names -/
abbrev Kc (d : D) : Prop := Kn cs fs d
def abc : Str := "abcdefghijklmnopqrstuvwxyz"
def isNs (s : Str) : Bool := decide (1 ≤ s.length) && decide (s.length ≤ 8) && s.cps.toList.all fun c => decide (c ∈ abc.cps.toList)
def isN : D → Bool
  | .str s => isNs s
  | _ => false
theorem isN_no {d : D} (h : isStrD d = false) : isN d = false := by cases d <;> first | rfl | cases h
theorem inS_one (c : Nat) (z : Str) : inD [.str ⟨#[c]⟩, .str z] = some (.val (.bl (decide (c ∈ z.cps.toList)))) := rfl
theorem inB_one (c : Nat) (z : Str) : inB [.str ⟨#[c]⟩, .str z] = some (decide (c ∈ z.cps.toList)) := rfl
theorem isname_run {d : D} (h : Kc d) : f_is_name.run [d] = .ret false (.bl (isN d)) [] := by
  refine FR.eq_of ?_
  cases hs : isStrD d with
  | false => simp [f_is_name, m_is_name, isi_str h, hs, isN_no hs]
  | true =>
    obtain ⟨s, rfl⟩ := str_of hs
    by_cases h1 : (1 : Int) ≤ s.length
    · by_cases h2 : (s.length : Int) ≤ 8
      · simp [f_is_name, m_is_name, isi_str h, hs, h1, h2]
        refine wp_lcA (fun c => D.bl (decide (c ∈ abc.cps.toList))) (fun c _ => by simp [putS_val, inS_one, inB_one, abc]) ?_
        simp [bls_fun, isN, isNs, show 1 ≤ s.length by omega, show s.length ≤ 8 by omega]
      · simp [f_is_name, m_is_name, isi_str h, hs, h1, h2, isN, isNs, show ¬ s.length ≤ 8 by omega]
    · simp [f_is_name, m_is_name, isi_str h, hs, h1, isN, isNs, show ¬ 1 ≤ s.length by omega]
theorem take_wp {p : D} {m : Int} {Q : Bool → D → List D → Prop} (h : Pu p) (h0 : 0 < m) (h1 : m < 1000000000) (k : ∀ r p', 0 ≤ r → r < m → Pu p' → Q false (.int r) [p']) : (f__law_take.run [p, .int m]).wp Q := by
  refine FR.wp_mono (take_spec h h0 h1) ?_
  rintro _ _ _ ⟨rfl, r, p', rfl, a, b, rfl, c⟩
  exact k r p' a b c
theorem isname_s {s : Str} : f_is_name.run [.str s] = .ret false (.bl (isNs s)) [] := isname_run kn_str
end K02
end
section
namespace K02
open PySem L2 RF
theorem isway_run {w : Str × Str} : f_is_way.run [wayD w] = .ret false (.bl (isNs w.1 && isNs w.2)) [] := by
  refine FR.eq_of ?_
  simp [f_is_way, m_is_way, wayD, isi_tuple (kn_tup), isTupD, at_nat, isname_s]
  cases isNs w.1 <;> simp [isname_s]
structure GoodW (ws : List (Str × Str)) : Prop where
  len : ws.length ≤ 60
  nd : ws.Nodup
  nm : ∀ w ∈ ws, isNs w.1 = true ∧ isNs w.2 = true
theorem enumD_map {α : Type} {f : α → D} : ∀ {xs : List α} {k i : Nat} {d : D}, (enumD k (xs.map f))[i]? = some d → ∃ x, xs[i]? = some x ∧ d = .tup [.int ((k + i : Nat) : Int), f x] := by
  intro xs k i d h
  obtain ⟨y, h1, h2⟩ := enumD_get h
  rw [List.getElem?_map] at h1
  cases e : xs[i]? with
  | none => rw [e] at h1; cases h1
  | some x => rw [e] at h1; cases h1; exact ⟨x, rfl, h2⟩
theorem not_in_take {α : Type} : ∀ {xs : List α}, xs.Nodup → ∀ {i : Nat} {x : α}, xs[i]? = some x → x ∉ xs.take i
  | [], _, i, x, h => by simp
  | a :: xs, nd, 0, x, h => by simp
  | a :: xs, nd, i + 1, x, h => by
    have nd' := List.nodup_cons.mp nd
    have h' : xs[i]? = some x := by simpa using h
    rw [List.take_succ_cons, List.mem_cons]
    rintro (e | e)
    · subst e; exact nd'.1 (List.mem_of_getElem? h')
    · exact not_in_take nd'.2 h' e
def CI (ws : List (Str × Str)) (i : Nat) (ρ : RF.Env) : Prop := ∃ a b, okS a = true ∧ okS b = true ∧ ρ = [some (.val (.tup (ws.map wayD))), a, b]
theorem checkways_run {ws : List (Str × Str)} (h : GoodW ws) : f_check_ways.run [.tup (ws.map wayD)] = .ret false .non [] := by
  refine FR.eq_of ?_
  have hl := h.len
  simp [f_check_ways, m_check_ways, isi_tuple (kn_tup), isTupD, show ¬ (60 : Int) < ws.length by omega]
  refine wp_forI (CI ws) ⟨none, none, rfl, rfl, rfl⟩ ?_ ?_
  · rintro i d ρ hi ⟨a, b, ha, hb, rfl⟩
    obtain ⟨w, hw, rfl⟩ := enumD_map hi
    have hm := List.mem_of_getElem? hw
    have hn := h.nm w hm
    simp [putS_val, ha, hb, isway_run, hn.1, hn.2, cutD_take, ← List.map_take, in_ways_t, not_in_take h.nd hw]
    refine ⟨_, _, rfl, rfl, rfl⟩
  · rintro ρ ⟨a, b, ha, hb, rfl⟩
    simp
structure GoodA (al js : List Str) : Prop where
  nd : al.Nodup
  nm : ∀ a ∈ al, isNs a = true
  off : ∀ a ∈ al, a ∉ js
def AI (al js : List Str) (i : Nat) (ρ : RF.Env) : Prop := ∃ a b, okS a = true ∧ okS b = true ∧ ρ = [some (.val (.tup (al.map .str))), some (.val (.lst (js.map .str))), a, b]
theorem checkalone_run {al js : List Str} (h : GoodA al js) : f_check_alone.run [.tup (al.map .str), .lst (js.map .str)] = .ret false .non [] := by
  refine FR.eq_of ?_
  simp [f_check_alone, m_check_alone, isi_tuple (kn_tup), isTupD]
  refine wp_forI (AI al js) ⟨none, none, rfl, rfl, rfl⟩ ?_ ?_
  · rintro i d ρ hi ⟨a, b, ha, hb, rfl⟩
    obtain ⟨w, hw, rfl⟩ := enumD_map hi
    have hm := List.mem_of_getElem? hw
    simp [putS_val, ha, hb, isname_s, h.nm w hm, cutD_take, ← List.map_take, in_strs_l, in_strs_t, not_in_take h.nd hw, h.off w hm]
    exact ⟨_, _, rfl, rfl, rfl⟩
  · rintro ρ ⟨a, b, ha, hb, rfl⟩
    simp
/-- a Web as it is made -/
def webPl (ws : List (Str × Str)) (al : List Str) : List Str := sortS (sortS (jn ws) ++ al)
def webD (ws : List (Str × Str)) (al : List Str) : D := .obj "Web" ["ways", "places"] [.tup ((sortW ws).map wayD), .tup ((webPl ws al).map .str)]
def SI (ws : List (Str × Str)) (al : List Str) (i : Nat) (acc : D) (ρ : RF.Env) : Prop := acc = .set ((jn (ws.take i)).map .str) ∧ ρ = [some (.bor (.obj "Web" [] [])), some (.val (.tup (ws.map wayD))), some (.val (.tup (al.map .str))), none, none, none, none]
theorem setF_web {f : Str} {d : D} {ns : List Str} {ds : List D} (hf : (("Web" : Str), f) ∈ fl) (hn : ns.length < 1000) : setF fl f d (.obj "Web" ns ds) = some (.obj "Web" (putD f d ns ds).1 (putD f d ns ds).2) := by
  simp [setF, hf, hn]
theorem web_run {ws : List (Str × Str)} {al : List Str} (h : GoodW ws) (ha : GoodA al (jn ws)) (h1 : 1 ≤ (jn ws).length + al.length) (h16 : (jn ws).length + al.length ≤ 16) :
    f_Web___init__.run [.obj "Web" [] [], .tup (ws.map wayD), .tup (al.map .str)] = .ret false .non [webD ws al] := by
  refine FR.eq_of ?_
  have hl := h.len
  have hj := jn_len ws
  have hs : (sortS (jn ws)).length = (jn ws).length := (sortS_perm _).length_eq
  have ga : GoodA al (sortS (jn ws)) := ⟨ha.nd, ha.nm, fun a m q => ha.off a m ((sortS_perm _).mem_iff.mp q)⟩
  simp [f_Web___init__, m_Web___init__, checkways_run h]
  refine wp_loopC (SI ws al) ⟨rfl, rfl⟩ ?_ ?_
  · rintro i d acc ρ hi ⟨rfl, rfl⟩
    rw [List.getElem?_map] at hi
    cases ew : ws[i]? with
    | none => rw [ew] at hi; cases hi
    | some w =>
      rw [ew] at hi; cases hi
      have hlt := (List.getElem?_eq_some_iff.mp ew).1
      have hjt := jn_len (ws.take i)
      have hti : (ws.take i).length = i := by simp; omega
      have e1 := ins1_len w.1 (jn (ws.take i))
      simp [putS_val, wayD, wp_loop1, show (jn (ws.take i)).length < 900 by omega, show (ins1 w.1 (jn (ws.take i))).length < 900 by omega]
      refine ⟨?_, rfl⟩
      rw [List.take_succ_eq_append_getElem hlt, jn_snoc, (List.getElem?_eq_some_iff.mp ew).2]
  · rintro acc ρ ⟨rfl, rfl⟩
    have c1 : (1 : Int) ≤ (jn ws).length + al.length := by omega
    have c2 : ((jn ws).length : Int) + al.length ≤ 16 := by omega
    have c3 : (jn ws).length + al.length ≤ cap := by rw [cap_eq]; omega
    have f1 : (("Web" : Str), ("ways" : Str)) ∈ fl := by decide
    have f2 : (("Web" : Str), ("places" : Str)) ∈ fl := by decide
    simp [show (jn ws).length < 1000 by omega, putS_val, putS_fresh, checkalone_run ga, hs, c1, c2, c3, setF_web f1, setF_web f2, putD, ← List.map_append]
    have ne : ¬ (("ways" : Str) = "places") := by decide
    simp [ne, webD, webPl]
end K02
end
section
namespace K02
open PySem L2 RF
/-- m unlike names -/
structure Nms (ns : List Str) (m : Nat) : Prop where
  len : ns.length = m
  nd : ns.Nodup
  nm : ∀ n ∈ ns, isNs n = true
def menu : List Str := ["set", "step", "walk", "back", "thread", "steps", "layers", "bare", "log", "orders", "told", "far", "many", "by", "paper", "none", "w", "x", "a", "b"]
theorem menu_nd : menu.Nodup := by decide
theorem menu_nm : ∀ n ∈ menu, isNs n = true := by decide
theorem menu_len : menu.length = 20 := rfl
def mAt (f k : Nat) : Str := menu.getD ((f + 3 * k) % 20) ""
theorem mAt_get {f k : Nat} : menu[(f + 3 * k) % 20]? = some (mAt f k) := by
  have h : (f + 3 * k) % 20 < menu.length := by rw [menu_len]; omega
  unfold mAt
  rw [List.getD_eq_getElem?_getD, List.getElem?_eq_getElem h]; rfl
theorem nms_menu {f m : Nat} (h : m ≤ 16) : Nms ((List.range m).map (mAt f)) m := by
  refine ⟨by simp, ?_, fun n hn => ?_⟩
  · rw [List.nodup_iff_pairwise_ne, List.pairwise_map]
    refine List.Pairwise.imp_of_mem ?_ (List.nodup_iff_pairwise_ne.mp List.nodup_range)
    intro a b ha hb hab e
    rw [List.mem_range] at ha hb
    have h1 := mAt_get (f := f) (k := a)
    rw [e, ← mAt_get (f := f) (k := b)] at h1
    have := (List.getElem?_inj (by rw [menu_len]; omega) menu_nd).mp h1
    omega
  · obtain ⟨k, _, rfl⟩ := List.mem_map.mp hn
    exact menu_nm _ (List.mem_of_getElem? mAt_get)
theorem abc_get {i : Nat} (h : i < 26) : abc.cps.toList[i]? = some (97 + i) := by
  have : ∀ i : Fin 26, abc.cps.toList[i.val]? = some (97 + i.val) := by decide
  exact this ⟨i, h⟩
theorem abc_in {i : Nat} (h : i < 26) : 97 + i ∈ abc.cps.toList := List.mem_of_getElem? (abc_get h)
/-- a stem with one letter in it -/
def sAt (st : Str) (a b k : Nat) : Str := cutS st none (some (a : Int)) ++ ⟨#[97 + (b + 5 * k) % 26]⟩ ++ cutS st (some (a : Int)) none
theorem cutS_cps {z : Str} {lo hi : Option Int} : (cutS z lo hi).cps.toList = cutD z.cps.toList lo hi := by
  unfold cutS cutD
  simp [Str.length]
theorem sAt_cps {st : Str} {a b k : Nat} : (sAt st a b k).cps.toList = st.cps.toList.take a ++ (97 + (b + 5 * k) % 26) :: st.cps.toList.drop a := by
  unfold sAt
  rw [app_cps, app_cps, cutS_cps, cutS_cps, cutD_take, cutD_drop]
  simp
theorem nms_stem {st : Str} {a b m : Nat} (hl : st.length ≤ 7) (hs : ∀ c ∈ st.cps.toList, c ∈ abc.cps.toList) (h : m ≤ 16) : Nms ((List.range m).map (sAt st a b)) m := by
  refine ⟨by simp, ?_, fun n hn => ?_⟩
  · rw [List.nodup_iff_pairwise_ne, List.pairwise_map]
    refine List.Pairwise.imp_of_mem ?_ (List.nodup_iff_pairwise_ne.mp List.nodup_range)
    intro x y hx hy hxy e
    rw [List.mem_range] at hx hy
    have e2 := congrArg (fun s : Str => s.cps.toList) e
    simp only [sAt_cps] at e2
    have e3 := List.append_cancel_left e2
    have e4 := (List.cons.inj e3).1
    omega
  · obtain ⟨k, _, rfl⟩ := List.mem_map.mp hn
    have hlen : (sAt st a b k).length = st.length + 1 := by
      rw [len_cps, sAt_cps, len_cps st]
      simp; omega
    unfold isNs
    simp only [Bool.and_eq_true, decide_eq_true_eq, List.all_eq_true, hlen]
    refine ⟨⟨by omega, by omega⟩, fun c hc => ?_⟩
    rw [sAt_cps] at hc
    simp only [List.mem_append, List.mem_cons] at hc
    rcases hc with hc | rfl | hc
    · exact hs c (List.mem_of_mem_take hc)
    · exact abc_in (Nat.mod_lt _ (by omega))
    · exact hs c (List.mem_of_mem_drop hc)
end K02
end
section
namespace K02
open PySem L2 RF
theorem joinM_l {z : Str} {xs : List D} : joinM z [.lst xs] = (strsD xs).bind fun ys => if (ys.map (·.length)).sum + ys.length * z.length ≤ cap then some (.val (.str (Str.join z ys))) else none := rfl
theorem join_one : ∀ cs : List Nat, ((cs.map fun c => (⟨#[c]⟩ : Str)).map (·.length)).sum = cs.length ∧ (Str.join "" (cs.map fun c => (⟨#[c]⟩ : Str))).cps.toList = cs := by
  intro cs
  rw [join0_cps]
  induction cs with
  | nil => exact ⟨rfl, rfl⟩
  | cons c cs ih =>
    obtain ⟨h1, h2⟩ := ih
    refine ⟨by simp only [List.map_cons, List.sum_cons, h1, List.length_cons]; show 1 + cs.length = _; omega, ?_⟩
    simp only [List.map_cons, List.flatten_cons]
    rw [h2]; rfl
/-- a drawn stem, as far as it goes -/
def StI (ρ0 : D → RF.Env) (i : Nat) (acc : List D) (ρ : RF.Env) : Prop := ∃ (p : D) (cs : List Nat), Pu p ∧ acc = (cs.map fun c => (⟨#[c]⟩ : Str)).map D.str ∧ cs.length = i ∧ (∀ c ∈ cs, c ∈ abc.cps.toList) ∧ ρ = ρ0 p
def e0 (m r1 r2 : Int) (p : D) : RF.Env := [some (.bor p), some (.val (.int m)), some (.val (.str abc)), some (.own (.lst (menu.map .str))), some (.val (.int r1)), some (.val (.int r2)), none, none, none, none]
theorem menu_lst : [D.str "set", .str "step", .str "walk", .str "back", .str "thread", .str "steps", .str "layers", .str "bare", .str "log", .str "orders", .str "told", .str "far", .str "many", .str "by", .str "paper", .str "none", .str "w", .str "x", .str "a", .str "b"] = menu.map .str := rfl
theorem range_map {m : Int} : rangeD 0 m = (List.range m.toNat).map fun k => D.int ((k : Nat) : Int) := by
  unfold rangeD; simp
theorem unlike_spec {p : D} {m : Int} (hp : Pu p) (h0 : 1 ≤ m) (h1 : m ≤ 16) : (f__law_unlike.run [p, .int m]).wp fun fr d outs => fr = true ∧ ∃ ns p', d = .lst (ns.map .str) ∧ Nms ns m.toNat ∧ outs = [p'] ∧ Pu p' := by
  have hm : m.toNat ≤ 16 := by omega
  simp [f__law_unlike, m__law_unlike, putS_val, putS_fresh, show 13 ≤ cap by decide, show 7 ≤ cap by decide, show 20 ≤ cap by decide]
  refine take_wp hp (by omega) (by omega) fun r1 p1 a1 b1 hp1 => ?_
  simp
  refine take_wp hp1 (by omega) (by omega) fun r2 p2 a2 b2 hp2 => ?_
  simp [putS_val]
  rw [menu_lst, show (Str.ofString "abcdefghijklmnopqrstuvwxyz") = abc from rfl]
  have c1 : -(cap : Int) ≤ m := by rw [cap_eq]; omega
  have c2 : m ≤ (cap : Int) := by rw [cap_eq]; omega
  split
  · simp [c1, c2, range_map]
    refine wp_lcA (fun k => D.str (mAt r1.toNat k)) ?_ ?_
    · intro k hk
      have e1 : atI (menu.map D.str) ((r1 + 3 * (k : Int)) % 20) = some (.str (mAt r1.toNat k)) := by
        rw [at_nat (by omega), List.getElem?_map, show ((r1 + 3 * (k : Int)) % 20).toNat = (r1.toNat + 3 * k) % 20 by omega, mAt_get]; rfl
      simp [putS_val, small64i, e1]
    · simp
      exact ⟨(List.range m.toNat).map (mAt r1.toNat), by simp, nms_menu hm, hp2⟩
  · refine take_wp hp2 (by omega) (by omega) fun r3 p3 a3 b3 hp3 => ?_
    have c3 : -(cap : Int) ≤ r3 := by rw [cap_eq]; omega
    have c4 : r3 ≤ (cap : Int) := by rw [cap_eq]; omega
    simp [c3, c4]
    refine wp_lcI (StI (e0 m r1 r2)) ⟨p3, [], hp3, rfl, rfl, by simp, rfl⟩ ?_ ?_
    · rintro i d acc ρ hi ⟨q, cs, hq, rfl, hl, hc, rfl⟩
      simp [e0, putS_val]
      refine take_wp hq (by omega) (by omega) fun r4 p4 a4 b4 hp4 => ?_
      have e1 : atI abc.cps.toList r4 = some (97 + r4.toNat) := by rw [at_nat a4, abc_get (by omega)]
      simp [e1]
      refine ⟨p4, cs ++ [97 + r4.toNat], hp4, by simp, by simp [hl], fun c hc' => ?_, rfl⟩
      rcases List.mem_append.mp hc' with h | h
      · exact hc c h
      · simp at h; subst h; exact abc_in (by omega)
    · rintro acc ρ ⟨q, cs, hq, rfl, hl, hc, rfl⟩
      obtain ⟨j1, j2⟩ := join_one cs
      have hk : cs.length ≤ 7 := by rw [hl, rangeD_len]; omega
      have j3 : ((cs.map fun c => (⟨#[c]⟩ : Str)).map (·.length)).sum + (cs.map fun c => (⟨#[c]⟩ : Str)).length * (Str.ofString "").length ≤ cap := by
        rw [j1, cap_eq]; show cs.length + _ * 0 ≤ _; omega
      generalize (cs.map fun c => (⟨#[c]⟩ : Str)) = ss at j2 j3
      have ej : joinM (Str.ofString "") [.lst (ss.map .str)] = some (.val (.str (Str.join "" ss))) := by
        rw [joinM_l, strsD_map]; simp only [Option.bind_some]; rw [if_pos j3]
      generalize Str.join "" ss = st at ej j2
      have hsl : st.length ≤ 7 := by rw [len_cps, j2]; exact hk
      have hsc : ∀ c ∈ st.cps.toList, c ∈ abc.cps.toList := by rw [j2]; exact hc
      simp [e0, ej, putS_val]
      refine take_wp hq (by omega) (by omega) fun r5 p5 a5 b5 hp5 => ?_
      simp
      refine take_wp hp5 (by omega) (by omega) fun r6 p6 a6 b6 hp6 => ?_
      simp [putS_val, c1, c2, range_map]
      refine wp_lcA (fun k => D.str (sAt st r5.toNat r6.toNat k)) ?_ ?_
      · intro k hk
        have e1 : atI abc.cps.toList ((r6 + 5 * (k : Int)) % 26) = some (97 + (r6.toNat + 5 * k) % 26) := by
          rw [at_nat (by omega), abc_get (by omega)]; congr 2; omega
        have e2 : (cutS st none (some r5)).length ≤ 7 := Nat.le_trans cutS_len hsl
        have e3 : (cutS st (some r5) none).length ≤ 7 := Nat.le_trans cutS_len hsl
        have e4 : ((r5.toNat : Nat) : Int) = r5 := by omega
        simp [putS_val, small64i, e1, sAt, e4]
        have e5 : ∀ c : Nat, (⟨#[c]⟩ : Str).length = 1 := fun c => rfl
        rw [len_append, e5, cap_eq]
        omega
      · simp
        exact ⟨(List.range m.toNat).map (sAt st r5.toNat r6.toNat), by simp, nms_stem hsl hsc hm, hp6⟩
end K02
end
section
namespace K02
open PySem L2 RF
theorem unlike_wp {p : D} {m : Int} {Q : Bool → D → List D → Prop} (hp : Pu p) (h0 : 1 ≤ m) (h1 : m ≤ 16) (k : ∀ ns p', Nms ns m.toNat → Pu p' → Q true (.lst (ns.map .str)) [p']) : (f__law_unlike.run [p, .int m]).wp Q := by
  refine FR.wp_mono (unlike_spec hp h0 h1) ?_
  rintro _ _ _ ⟨rfl, ns, p', rfl, a, rfl, b⟩
  exact k ns p' a b
/-- names and ways between them -/
structure Net (ns : List Str) (ws : List (Str × Str)) : Prop where
  l0 : 1 ≤ ns.length
  l1 : ns.length ≤ 16
  nd : ns.Nodup
  nm : ∀ n ∈ ns, isNs n = true
  wl : ws.length ≤ 60
  wd : ws.Nodup
  wi : ∀ w ∈ ws, w.1 ∈ ns ∧ w.2 ∈ ns
theorem str_at {ns : List Str} {i : Int} (h0 : 0 ≤ i) (h1 : i < ns.length) : ∃ n, n ∈ ns ∧ ns[i.toNat]? = some n ∧ atI (ns.map D.str) i = some (.str n) := by
  have h : i.toNat < ns.length := by omega
  refine ⟨ns[i.toNat], List.getElem_mem h, List.getElem?_eq_getElem h, ?_⟩
  rw [at_nat h0, List.getElem?_map, List.getElem?_eq_getElem h]; rfl
theorem take_up {α : Type} {xs : List α} {i : Nat} {x : α} (h : xs[i]? = some x) : xs.take (i + 1) = xs.take i ++ [x] := by
  obtain ⟨hl, e⟩ := List.getElem?_eq_some_iff.mp h
  rw [List.take_succ_eq_append_getElem hl, e]
theorem map_get {α : Type} {f : α → D} {xs : List α} {i : Nat} {d : D} (h : (xs.map f)[i]? = some d) : ∃ x, xs[i]? = some x ∧ d = f x := by
  rw [List.getElem?_map] at h
  cases e : xs[i]? with
  | none => rw [e] at h; cases h
  | some x => rw [e] at h; cases h; exact ⟨x, rfl, rfl⟩
theorem net_good {ns : List Str} {ws us : List (Str × Str)} {al : List Str} (h : Net ns ws) (hu : us.Perm ws) (ha : al = ns.filter fun n => !decide (n ∈ ws.map Prod.fst ++ ws.map Prod.snd)) :
    GoodW us ∧ GoodA al (jn us) ∧ (jn us ++ al).Perm ns := by
  have hmem : ∀ a, a ∈ al ↔ a ∈ ns ∧ ∀ w ∈ ws, a ≠ w.1 ∧ a ≠ w.2 := by
    intro a
    rw [ha, List.mem_filter]
    simp only [List.mem_append, List.mem_map, Bool.not_eq_true', decide_eq_false_iff_not, not_or, not_exists, not_and]
    constructor
    · rintro ⟨h1, h2, h3⟩
      exact ⟨h1, fun w hw => ⟨fun e => h2 w hw e.symm, fun e => h3 w hw e.symm⟩⟩
    · rintro ⟨h1, h2⟩
      exact ⟨h1, fun w hw e => (h2 w hw).1 e.symm, fun w hw e => (h2 w hw).2 e.symm⟩
  have hj : ∀ a, a ∈ jn us ↔ ∃ w ∈ ws, a = w.1 ∨ a = w.2 := by
    intro a
    rw [jn_mem]
    constructor
    · rintro ⟨w, hw, e⟩; exact ⟨w, hu.mem_iff.mp hw, e⟩
    · rintro ⟨w, hw, e⟩; exact ⟨w, hu.mem_iff.mpr hw, e⟩
  have had : al.Nodup := by rw [ha]; exact h.nd.filter _
  have off : ∀ a ∈ al, a ∉ jn us := fun a m q => by
    obtain ⟨w, hw, e⟩ := (hj a).mp q
    rcases e with e | e
    · exact (((hmem a).mp m).2 w hw).1 e
    · exact (((hmem a).mp m).2 w hw).2 e
  refine ⟨⟨by rw [hu.length_eq]; exact h.wl, hu.nodup_iff.mpr h.wd, fun w hw => ?_⟩, ⟨had, fun a m => h.nm a ((hmem a).mp m).1, off⟩, ?_⟩
  · have := h.wi w (hu.mem_iff.mp hw)
    exact ⟨h.nm _ this.1, h.nm _ this.2⟩
  · refine (List.perm_ext_iff_of_nodup ?_ h.nd).mpr fun a => ?_
    · rw [List.nodup_append]
      exact ⟨jn_nodup us, had, fun x hx y hy e => off y hy (e ▸ hx)⟩
    · rw [List.mem_append, hj, hmem]
      constructor
      · rintro (⟨w, hw, e⟩ | ⟨h1, _⟩)
        · rcases e with e | e <;> rw [e]
          · exact (h.wi w hw).1
          · exact (h.wi w hw).2
        · exact h1
      · intro ha
        by_cases hx : ∃ w ∈ ws, a = w.1 ∨ a = w.2
        · exact .inl hx
        · exact .inr ⟨ha, fun w hw => ⟨fun e => hx ⟨w, hw, .inl e⟩, fun e => hx ⟨w, hw, .inr e⟩⟩⟩

def e3 (ns : List Str) (q r : Int) (p : D) (ws : List (Str × Str)) (a : Option SV) : RF.Env := [some (.bor p), some (.val (.int q)), some (.val (.lst (ns.map .str))), some (.val (.int (1 + r))), some (.own (.lst (ws.map wayD))), a, none, none, none, none, none]
def OuI (ns : List Str) (q r : Int) (i : Nat) (ρ : RF.Env) : Prop := ∃ (p : D) (ws : List (Str × Str)) (a : Option SV), Pu p ∧ ws.Nodup ∧ ws.length ≤ i * ns.length ∧ (∀ w ∈ ws, w.1 ∈ ns.take i ∧ w.2 ∈ ns) ∧ okS a = true ∧ ρ = e3 ns q r p ws a
def InI (ns : List Str) (q r : Int) (ws : List (Str × Str)) (n : Str) (j : Nat) (acc : List D) (ρ : RF.Env) : Prop := ∃ (p : D) (qs : List Str), Pu p ∧ acc = qs.map (fun o => wayD (n, o)) ∧ qs.length ≤ j ∧ qs.Nodup ∧ (∀ o ∈ qs, o ∈ ns.take j) ∧ ρ = e3 ns q r p ws (some (.val (.str n)))
/-- the places that stand in no way -/
abbrev loneL (ns : List Str) (ws : List (Str × Str)) : List Str := ns.filter fun n => !decide (n ∈ ws.map Prod.fst ++ ws.map Prod.snd)
theorem net_spec {p : D} {q : Int} (hp : Pu p) (h0 : 1 ≤ q) (h1 : q ≤ 7) : (f__law_net.run [p, .int q]).wp fun fr d outs => fr = false ∧ ∃ ns ws p', d = .tup [.lst (ns.map .str), .lst (ws.map wayD), .lst ((loneL ns ws).map .str)] ∧ Net ns ws ∧ (ns.length : Int) ≤ q ∧ outs = [p'] ∧ Pu p' := by
  simp [f__law_net, m__law_net]
  refine take_wp hp (by omega) (by omega) fun r1 p1 a1 b1 hp1 => ?_
  simp
  refine unlike_wp hp1 (by omega) (by omega) fun ns p2 hn hp2 => ?_
  have hl := hn.len
  simp
  refine take_wp hp2 (by omega) (by omega) fun r3 p4 a3 b3 hp4 => ?_
  simp [putSs, putS_val, putS_fresh, show 0 ≤ cap by decide]
  refine wp_forI (OuI ns q r3) ⟨p4, [], none, hp4, List.nodup_nil, by simp, by simp, rfl, rfl⟩ ?_ ?_
  · rintro i d ρ hi ⟨p5, ws, a, hp5, hwd, hwl, hwi, ha, rfl⟩
    obtain ⟨n, hn1, rfl⟩ := map_get hi
    have hil := (List.getElem?_eq_some_iff.mp hn1).1
    simp [e3, putS_val, ha]
    refine wp_lcI (InI ns q r3 ws n) ⟨p5, [], hp5, rfl, by simp, List.nodup_nil, by simp, rfl⟩ ?_ ?_
    · rintro j d acc ρ hj ⟨p6, qs, hp6, rfl, hql, hqn, hqi, rfl⟩
      obtain ⟨o, ho, rfl⟩ := map_get hj
      simp [e3, putS_val]
      refine take_wp hp6 (by omega) (by omega) fun r4 p7 a4 b4 hp7 => ?_
      simp
      split
      · simp [show 2 ≤ cap by decide]
        refine ⟨p7, qs ++ [o], hp7, by simp [wayD], by simp; omega, ?_, fun v hv => ?_, rfl⟩
        · rw [List.nodup_append]
          refine ⟨hqn, by simp, fun x hx y hy e => ?_⟩
          simp at hy; subst hy e
          exact not_in_take hn.nd ho (hqi x hx)
        · rw [take_up ho]
          rcases List.mem_append.mp hv with h | h
          · exact List.mem_append_left _ (hqi v h)
          · simp at h; subst h; simp
      · exact ⟨p7, qs, hp7, rfl, by omega, hqn, fun v hv => by rw [take_up ho]; exact List.mem_append_left _ (hqi v hv), rfl⟩
    · rintro acc ρ ⟨p6, qs, hp6, rfl, hql, hqn, hqi, rfl⟩
      rw [List.length_map] at hql hqi
      have hns : ns.length ≤ 7 := by omega
      have hb : i * ns.length ≤ 7 * 7 := Nat.mul_le_mul (by omega) hns
      have hc : ws.length + qs.length ≤ cap := by rw [cap_eq]; omega
      simp [e3, extendM, hc]
      refine ⟨p6, ws ++ qs.map fun o => (n, o), some (.val (.str n)), hp6, ?_, by rw [List.length_append, List.length_map, Nat.succ_mul]; omega, fun w hw => ?_, rfl, by simp [e3]⟩
      · rw [List.nodup_append]
        refine ⟨hwd, ?_, fun x hx y hy e => ?_⟩
        · rw [List.nodup_iff_pairwise_ne, List.pairwise_map]
          exact List.Pairwise.imp (fun h e => h (Prod.mk.inj e).2) (List.nodup_iff_pairwise_ne.mp hqn)
        · obtain ⟨o, _, rfl⟩ := List.mem_map.mp hy
          subst e
          exact not_in_take hn.nd hn1 (hwi _ hx).1
      · rw [take_up hn1]
        rcases List.mem_append.mp hw with h | h
        · exact ⟨List.mem_append_left _ (hwi w h).1, (hwi w h).2⟩
        · obtain ⟨o, ho, rfl⟩ := List.mem_map.mp h
          exact ⟨by simp, List.mem_of_mem_take (hqi o ho)⟩
  · rintro ρ ⟨p5, ws, a, hp5, hwd, hwl, hwi, ha, rfl⟩
    have hns : ns.length ≤ 7 := by omega
    have hb : ns.length * ns.length ≤ 7 * 7 := Nat.mul_le_mul hns hns
    rw [List.length_map] at hwl hwi
    simp [e3]
    refine take_wp hp5 (by omega) (by omega) fun r4 p6 a4 b4 hp6 => ?_
    obtain ⟨t, rfl⟩ : ∃ t : Nat, r4 = t := ⟨r4.toNat, by omega⟩
    have hc : ws.length - t + min t ws.length ≤ cap := by rw [cap_eq]; omega
    have hu : (ws.drop t ++ ws.take t).Perm ws := (List.perm_append_comm).trans (by rw [List.take_append_drop])
    have hlen := hu.length_eq
    simp [putS_val, putS_fresh, cutD_drop, cutD_take, ← List.map_drop, ← List.map_take, ← List.map_append, hc]
    have Hn : Net ns (ws.drop t ++ ws.take t) := ⟨by omega, by omega, hn.nd, hn.nm, by rw [hlen]; omega, hu.nodup_iff.mpr hwd, fun w hw => by
      have := hu.mem_iff.mp hw
      exact ⟨List.mem_of_mem_take (hwi w this).1, (hwi w this).2⟩⟩
    have hvl : (ws.drop t ++ ws.take t).length ≤ 60 := Hn.wl
    generalize ws.drop t ++ ws.take t = vs at Hn hvl
    refine wp_lcA (fun w => D.str w.1) (fun w _ => by simp [putS_val, wayD, at_nat]) ?_
    simp
    refine wp_lcA (fun w => D.str w.2) (fun w _ => by simp [putS_val, wayD, at_nat]) ?_
    have hc2 : vs.length + vs.length ≤ cap := by rw [cap_eq]; omega
    have hs : List.map (fun w : Str × Str => D.str w.1) vs ++ List.map (fun w : Str × Str => D.str w.2) vs = (vs.map Prod.fst ++ vs.map Prod.snd).map D.str := by rw [List.map_append, List.map_map, List.map_map]; rfl
    simp [hc2, putS_fresh]
    rw [hs]
    refine wp_lcAF (fun n => !decide (n ∈ vs.map Prod.fst ++ vs.map Prod.snd)) D.str (fun n _ => ?_) ?_
    · by_cases hx : n ∈ vs.map Prod.fst ++ vs.map Prod.snd <;> simp [-List.map_append, -List.mem_append, putS_val, in_strs_l, hx]
    · simp [-List.map_append, -List.mem_append, show 3 ≤ cap by decide]
      exact ⟨ns, vs, ⟨rfl, rfl, rfl⟩, Hn, by omega, hp6⟩
theorem net_wp {p : D} {q : Int} {Q : Bool → D → List D → Prop} (hp : Pu p) (h0 : 1 ≤ q) (h1 : q ≤ 7) (k : ∀ ns ws p', Net ns ws → (ns.length : Int) ≤ q → Pu p' → Q false (.tup [.lst (ns.map .str), .lst (ws.map wayD), .lst ((loneL ns ws).map .str)]) [p']) : (f__law_net.run [p, .int q]).wp Q := by
  refine FR.wp_mono (net_spec hp h0 h1) ?_
  rintro _ _ _ ⟨rfl, ns, ws, p', rfl, a, b, rfl, c⟩
  exact k ns ws p' a b c
theorem net_pl {ns : List Str} {ws : List (Str × Str)} (h : Net ns ws) : (webPl ws (loneL ns ws)).Perm ns := by
  obtain ⟨g1, g2, g3⟩ := net_good (al := loneL ns ws) h (List.Perm.refl ws) rfl
  exact (sortS_perm _).trans (((sortS_perm _).append_right _).trans g3)
/-- the Web of a net, made -/
theorem netweb_run {ns : List Str} {ws : List (Str × Str)} (h : Net ns ws) : f_Web___init__.run [.obj "Web" [] [], .tup (ws.map wayD), .tup ((loneL ns ws).map .str)] = .ret false .non [webD ws (loneL ns ws)] := by
  obtain ⟨g1, g2, g3⟩ := net_good (al := loneL ns ws) h (List.Perm.refl ws) rfl
  have hlen := g3.length_eq
  rw [List.length_append] at hlen
  have l0 := h.l0
  have l1 := h.l1
  exact web_run g1 g2 (by omega) (by omega)
end K02
end
section
namespace K02
open PySem L2 RF
theorem web_cs : (("Web" : Str)) ∈ cs := by decide
theorem fld_ways {us : List (Str × Str)} {al : List Str} : fldD fl "ways" [webD us al] = some (.val (.tup ((sortW us).map wayD))) := by
  unfold webD fldD; simp; decide
theorem fld_places {us : List (Str × Str)} {al : List Str} : fldD fl "places" [webD us al] = some (.val (.tup ((webPl us al).map .str))) := by
  have h1 : (("Web" : Str), ("places" : Str)) ∈ fl := by decide
  have h2 : (("places" : Str) == ("ways" : Str)) = false := by decide
  unfold webD fldD; simp [h1, List.lookup, h2]
theorem checkplace_run {us : List (Str × Str)} {al : List Str} {p : Str} (h : p ∈ webPl us al) : f_check_place.run [webD us al, .str p] = .ret false .non [] := by
  refine FR.eq_of ?_
  simp [f_check_place, m_check_place, fld_places, isi_str (kn_str), isStrD, in_strs_t, h]
theorem onward_run {us : List (Str × Str)} {al : List Str} {p : Str} (h : p ∈ webPl us al) : f_Web_onward.run [webD us al, .str p] = .ret false (.tup ((onw us p).map .str)) [] := by
  refine FR.eq_of ?_
  simp [f_Web_onward, m_Web_onward, checkplace_run h, fld_ways]
  refine wp_lcAF (fun w => decide (w.1 = p)) (fun w => D.str w.2) (fun w _ => ?_) ?_
  · by_cases hw : w.1 = p <;> simp [wayD, putS_val, hw]
  · simp [onw]
theorem has_run {us : List (Str × Str)} {al : List Str} {p q : Str} (h : p ∈ webPl us al) (h' : q ∈ webPl us al) : f_Web_has.run [webD us al, .str p, .str q] = .ret false (.bl (decide ((p, q) ∈ us))) [] := by
  refine FR.eq_of ?_
  have hq : inB [.tup [.str p, .str q], .tup ((sortW us).map wayD)] = some (decide ((p, q) ∈ sortW us)) := in_ways_t (w := (p, q)) (ws := sortW us)
  have hm : ((p, q) ∈ sortW us) = ((p, q) ∈ us) := propext (sortW_perm us).mem_iff
  simp [f_Web_has, m_Web_has, checkplace_run h, checkplace_run h', fld_ways, hq, hm, show 2 ≤ cap by decide]
theorem ao_web {us : List (Str × Str)} {al : List Str} : asObj (webD us al) = some (("Web" : Str), ([("ways" : Str), ("places" : Str)] : List Str), [D.tup ((sortW us).map wayD), D.tup ((webPl us al).map .str)]) := rfl
theorem lk_web {α : Type} {a : α} : List.lookup ("Web" : Str) [(("Web" : Str), a)] = some a := by simp [List.lookup]
/-! ### sorted once more -/
theorem sortS_eq {l l' : List Str} (p : l'.Perm l) : sortS l' = sortS l := by
  have := sortD_perm p
  rw [sortD_strs, sortD_strs] at this
  have inj : ∀ {a b : List Str}, a.map D.str = b.map D.str → a = b := by
    intro a
    induction a with
    | nil => intro b h; cases b <;> simp at h ⊢
    | cons x a ih =>
      intro b h
      cases b with
      | nil => simp at h
      | cons y b =>
        simp only [List.map_cons, List.cons.injEq, D.str.injEq] at h
        rw [h.1, ih h.2]
  exact inj this
theorem onw_sorted {ws : List (Str × Str)} {p : Str} : sortS ((ws.filter fun w => decide (w.1 = p)).map Prod.snd) = onw ws p := by
  have hperm : (onw ws p).Perm ((ws.filter fun w => decide (w.1 = p)).map Prod.snd) := ((sortW_perm ws).filter _).map _
  refine List.Perm.eq_of_pairwise (le := fun a b => leD1 (.str a) (.str b) = true) (fun a b _ _ h1 h2 => leD1_anti h1 h2) ?_ ?_ ((sortS_perm _).trans hperm.symm)
  · have := PySem.W.sort_pairwise leD1_total (((ws.filter fun w => decide (w.1 = p)).map Prod.snd).map D.str)
    rw [show (((ws.filter fun w => decide (w.1 = p)).map Prod.snd).map D.str).mergeSort leD1 = sortD (((ws.filter fun w => decide (w.1 = p)).map Prod.snd).map D.str) from rfl, sortD_strs, List.pairwise_map] at this
    exact this
  · have h1 := PySem.W.sort_pairwise leD1_total (ws.map wayD)
    rw [show (ws.map wayD).mergeSort leD1 = sortD (ws.map wayD) from rfl, sortD_ways, List.pairwise_map] at h1
    unfold onw
    rw [List.pairwise_map]
    refine List.Pairwise.imp_of_mem ?_ (h1.filter fun w => decide (w.1 = p))
    intro a b ha hb h
    rw [List.mem_filter, decide_eq_true_eq] at ha hb
    rw [leD1_way, if_pos (hb.2.trans ha.2.symm)] at h
    rw [leD1_str, decide_eq_true_eq]
    split at h
    · rename_i e; rw [e]; exact List.le_refl _
    · exact List.not_lt.mp (by simpa using h)
/-! ### texts -/
theorem len_join {z : Str} : ∀ ss : List Str, (Str.join z ss).length ≤ (ss.map (·.length)).sum + ss.length * z.length
  | [] => by simp [Str.join, Str.length, Str.empty]
  | [x] => by simp [Str.join]
  | x :: y :: r => by
    have ih := len_join (z := z) (y :: r)
    show (x ++ z ++ Str.join z (y :: r)).length ≤ _
    rw [len_append, len_append]
    simp only [List.map_cons, List.sum_cons, List.length_cons] at ih ⊢
    rw [Nat.succ_mul]
    omega
theorem sum_le {m : Nat} : ∀ {ss : List Str}, (∀ s ∈ ss, s.length ≤ m) → (ss.map (·.length)).sum ≤ ss.length * m
  | [], _ => by simp
  | x :: ss, h => by
    have h1 := h x List.mem_cons_self
    have h2 := sum_le (m := m) (ss := ss) fun s hs => h s (List.mem_cons_of_mem _ hs)
    rw [List.map_cons, List.sum_cons, List.length_cons, Nat.succ_mul]; omega
theorem join_s {z : Str} {ss : List Str} (h : (ss.map (·.length)).sum + ss.length * z.length ≤ cap) : joinM z [.lst (ss.map .str)] = some (.val (.str (Str.join z ss))) := by
  rw [joinM_l, strsD_map]
  simp only [Option.bind_some]
  rw [if_pos h]
def rowL (ws : List (Str × Str)) (p : Str) : List Str := [p, ">"] ++ onw ws p
def rowT (ws : List (Str × Str)) (p : Str) : Str := Str.join " " (rowL ws p)
def textT (ws : List (Str × Str)) (ps : List Str) : Str := Str.join "\n" (ps.map (rowT ws))
theorem isNs_len {s : Str} (h : isNs s = true) : s.length ≤ 8 := by
  simp only [isNs, Bool.and_eq_true, decide_eq_true_eq] at h
  exact h.1.2
section
variable {ns : List Str} {ws : List (Str × Str)}
theorem rowL_len (h : Net ns ws) {p : Str} (hp : p ∈ ns) : (rowL ws p).length ≤ 62 ∧ ∀ s ∈ rowL ws p, s.length ≤ 8 := by
  have h1 : (onw ws p).length ≤ ws.length := by
    unfold onw
    rw [List.length_map, ← (sortW_perm ws).length_eq]
    exact List.length_filter_le _ _
  have := h.wl
  refine ⟨by unfold rowL; rw [List.length_append]; simp; omega, fun s hs => ?_⟩
  unfold rowL at hs
  rcases List.mem_append.mp hs with hs | hs
  · simp at hs
    rcases hs with rfl | rfl
    · exact isNs_len (h.nm _ hp)
    · decide
  · exact isNs_len (h.nm _ (h.wi _ (onw_mem.mp hs)).2)
theorem rowT_len (h : Net ns ws) {p : Str} (hp : p ∈ ns) : ((rowL ws p).map (·.length)).sum + (rowL ws p).length * (Str.ofString " ").length ≤ 1000 ∧ (rowT ws p).length ≤ 1000 := by
  obtain ⟨h1, h2⟩ := rowL_len h hp
  have h3 := sum_le h2
  have h4 : (rowL ws p).length * 8 ≤ 62 * 8 := Nat.mul_le_mul_right _ h1
  have h5 : (Str.ofString " ").length = 1 := rfl
  have h6 := len_join (z := " ") (rowL ws p)
  rw [h5] at h6 ⊢
  refine ⟨by omega, ?_⟩
  unfold rowT
  omega
theorem join_row (h : Net ns ws) {p : Str} (hp : p ∈ ns) : joinM " " [.lst (D.str p :: D.str ">" :: (onw ws p).map .str)] = some (.val (.str (rowT ws p))) := by
  have h1 := (rowT_len h hp).1
  exact join_s (ss := rowL ws p) (by rw [cap_eq]; omega)
theorem join_text (h : Net ns ws) {ps : List Str} (hp : ∀ p ∈ ps, p ∈ ns) (hl : ps.length ≤ 16) : joinM "\n" [.lst ((ps.map (rowT ws)).map .str)] = some (.val (.str (textT ws ps))) := by
  have h1 := sum_le (m := 1000) (ss := ps.map (rowT ws)) fun s hs => by
    obtain ⟨p, hp', rfl⟩ := List.mem_map.mp hs
    exact (rowT_len h (hp p hp')).2
  have h2 : (ps.map (rowT ws)).length * 1000 ≤ 16 * 1000 := by rw [List.length_map]; exact Nat.mul_le_mul_right _ hl
  have h5 : (Str.ofString "\n").length = 1 := rfl
  refine join_s ?_
  rw [h5, cap_eq]
  rw [List.length_map] at *
  omega
theorem net_l16 (h : Net ns ws) : (webPl ws (loneL ns ws)).length ≤ 16 := by rw [(net_pl h).length_eq]; exact h.l1
theorem pl_sort (h : Net ns ws) : webPl ws (loneL ns ws) = sortS ns := by
  obtain ⟨g1, g2, g3⟩ := net_good (al := loneL ns ws) h (List.Perm.refl ws) rfl
  exact sortS_eq (((sortS_perm _).append_right _).trans g3)
def SrI (ws : List (Str × Str)) (w : D) (ps : List Str) (i : Nat) (ρ : RF.Env) : Prop := ∃ a, okS a = true ∧ ρ = [some (.val w), some (.own (.lst (((ps.take i).map (rowT ws)).map .str))), a]
theorem str_run (h : Net ns ws) : f_Web___str__.run [webD ws (loneL ns ws)] = .ret false (.str (textT ws (sortS ns))) [] := by
  refine FR.eq_of ?_
  have hpl := pl_sort h
  have hp := sortS_perm ns
  have hl := hp.length_eq
  have h1 := h.l1
  simp [f_Web___str__, m_Web___str__, fld_places, putS_fresh, show 0 ≤ cap by decide]
  refine wp_forI (SrI ws (webD ws (loneL ns ws)) (webPl ws (loneL ns ws))) ⟨none, rfl, by simp⟩ ?_ ?_
  · rintro i d ρ hi ⟨a, ha, rfl⟩
    obtain ⟨p, hpi, rfl⟩ := map_get hi
    have hm := List.mem_of_getElem? hpi
    have hmn : p ∈ ns := by rw [hpl] at hm; exact hp.mem_iff.mp hm
    have hil := (List.getElem?_eq_some_iff.mp hpi).1
    have h16 := net_l16 h
    have hol : 2 + (onw ws p).length ≤ cap := by
      have := (rowL_len h hmn).1
      unfold rowL at this
      rw [List.length_append] at this
      simp at this
      rw [cap_eq]; omega
    have hj := join_row h hmn
    simp [putS_val, ha, ao_web, lk_web, pick, noFresh, onward_run hm, show 2 ≤ cap by decide]
    refine ⟨by decide, ?_⟩
    simp [hol, hj, appendM]
    have hc : min i (webPl ws (loneL ns ws)).length < cap := by rw [cap_eq]; omega
    simp [hc]
    refine ⟨some (.val (.str p)), rfl, ?_⟩
    rw [take_up hpi]
    simp
  · rintro ρ ⟨a, ha, rfl⟩
    rw [List.length_map, List.take_length, hpl]
    have hj := join_text h (ps := sortS ns) (fun p hp' => hp.mem_iff.mp hp') (by omega)
    simp [-List.map_map, hj]
theorem repr_run (h : Net ns ws) : f_Web___repr__.run [webD ws (loneL ns ws)] = .ret false (.str (Str.empty ++ "Web(" ++ intS (ns.length : Nat) ++ " places, " ++ intS (ws.length : Nat) ++ " ways)")) [] := by
  refine FR.eq_of ?_
  have hl := (net_pl h).length_eq
  have hwl := (sortW_perm ws).length_eq
  have h1 := h.l1
  have h2 := h.wl
  have o1 := intOk_small (n := ns.length) (by omega)
  have o2 := intOk_small (n := ws.length) (by omega)
  have l1 := intS_len (n := ns.length) (by omega)
  have l2 := intS_len (n := ws.length) (by omega)
  have lc : ∀ k : Nat, k ≤ 100 → k ≤ cap := fun k hk => by rw [cap_eq]; omega
  have q1 : (Str.ofString "Web(").length = 4 := rfl
  have q2 : (Str.ofString " places, ").length = 9 := rfl
  have q3 : (Str.ofString " ways)").length = 6 := rfl
  have q0 : Str.empty.length = 0 := rfl
  simp [f_Web___repr__, m_Web___repr__, fld_places, fld_ways, hl, hwl, o1, o2, len_append, q0, q1, q2, q3]
  exact ⟨lc _ (by omega), lc _ (by omega), lc _ (by omega), lc _ (by omega), lc _ (by omega)⟩
theorem len_run (h : Net ns ws) : f_Web___len__.run [webD ws (loneL ns ws)] = .ret false (.int (ns.length : Nat)) [] := by
  refine FR.eq_of ?_
  have hl := (net_pl h).length_eq
  simp [f_Web___len__, m_Web___len__, fld_places, hl]
abbrev tbL : List (Str × FunSem × List Pm) := [("Web", f_Web___len__, [])]
abbrev tbS : List (Str × FunSem × List Pm) := [("Web", f_Web___str__, [])]
abbrev tbR : List (Str × FunSem × List Pm) := [("Web", f_Web___repr__, [])]
theorem dun_web {f : FunSem} {chk : D → Bool} {us : List (Str × Str)} {al : List Str} {r : D} (hm : f.modes = [false]) (h : f.run [webD us al] = .ret false r []) (hc : chk r = true) : dunD [("Web", f, [])] chk [webD us al] = some (.val r) := by
  unfold webD at h ⊢
  simp only [dunD, lk_web]
  rw [if_pos hm, h]
  simp [hc]
theorem lenX_web (h : Net ns ws) : lenX tbL [webD ws (loneL ns ws)] = some (.val (.int (ns.length : Nat))) :=
  dun_web md_Web___len__ (len_run h) (by have := h.l1; simp [chkLen]; omega)
theorem strX_web (h : Net ns ws) : strX tbS [webD ws (loneL ns ws)] = some (.val (.str (textT ws (sortS ns)))) := dun_web md_Web___str__ (str_run h) rfl
theorem reprX_web (h : Net ns ws) : reprX tbR [webD ws (loneL ns ws)] = some (.val (.str (Str.empty ++ "Web(" ++ intS (ns.length : Nat) ++ " places, " ++ intS (ws.length : Nat) ++ " ways)"))) := dun_web md_Web___repr__ (repr_run h) rfl
theorem boolX_web (h : Net ns ws) : boolX cs tbL [webD ws (loneL ns ws)] = some (.val (.bl true)) := by
  have e : dunD tbL chkLen [webD ws (loneL ns ws)] = some (.val (.int (ns.length : Nat))) := lenX_web h
  have h0 := h.l0
  unfold webD at e ⊢
  simp only [boolX, web_cs, if_true, e, Option.bind_some, toB]
  have : (((ns.length : Nat) : Int) != 0) = true := by rw [bne_iff_ne]; omega
  rw [this]
end
end K02
end
section
namespace K02
open PySem L2 RF
section
variable {ns : List Str} {ws : List (Str × Str)}
/-! ### a broad web -/
def eH (ns : List Str) (p : D) (ws : List (Str × Str)) (a3 a4 a5 : Option SV) : RF.Env := [some (.bor p), some (.val (.lst (ns.map .str))), some (.own (.lst (ws.map wayD))), a3, a4, a5, none, none]
structure Ln (ns : List Str) (m : Nat) (ws : List (Str × Str)) : Prop where
  nd : ws.Nodup
  len : ws.length ≤ m
  inn : ∀ w ∈ ws, w.1 ∈ ns ∧ w.2 ∈ ns
def vOk (a : Option SV) : Prop := a = none ∨ ∃ d, a = some (.val d)
theorem vOk.ok {a : Option SV} (h : vOk a) : okS a = true := by rcases h with rfl | ⟨d, rfl⟩ <;> rfl
def TnO (ns : List Str) (i : Nat) (ρ : RF.Env) : Prop := ∃ p ws a3 a4 a5, Pu p ∧ Ln ns (i * 3) ws ∧ okS a3 = true ∧ okS a4 = true ∧ vOk a5 ∧ ρ = eH ns p ws a3 a4 a5
def TnI (ns : List Str) (i : Nat) (n : Str) (j : Nat) (ρ : RF.Env) : Prop := ∃ p ws a4 a5, Pu p ∧ Ln ns (i * 3 + j) ws ∧ okS a4 = true ∧ vOk a5 ∧ ρ = eH ns p ws (some (.val (.str n))) a4 a5
theorem broad_spec {p : D} (hp : Pu p) : (f__law_broad.run [p]).wp fun fr d outs => fr = false ∧ ∃ ns ws p', d = .tup [.lst (ns.map .str), .lst (ws.map wayD), .lst ((loneL ns ws).map .str)] ∧ Net ns ws ∧ outs = [p'] ∧ Pu p' := by
  simp [f__law_broad, m__law_broad]
  refine take_wp hp (by omega) (by omega) fun r1 p1 a1 b1 hp1 => ?_
  simp
  refine unlike_wp hp1 (by omega) (by omega) fun ns p2 hn hp2 => ?_
  have hl := hn.len
  simp [putSs, putS_val, putS_fresh, noSlot, show 0 ≤ cap by decide]
  refine wp_forI (TnO ns) ⟨p2, [], none, none, none, hp2, ⟨by simp, by simp, by simp⟩, rfl, rfl, .inl rfl, rfl⟩ ?_ ?_
  · rintro i d ρ hi ⟨p3, ws, a3, a4, a5, hp3, hw, h3, h4, h5, rfl⟩
    obtain ⟨n, hn1, rfl⟩ := map_get hi
    have hnm := List.mem_of_getElem? hn1
    have hil := (List.getElem?_eq_some_iff.mp hn1).1
    simp [eH, putS_val, h3]
    refine take_wp hp3 (by omega) (by omega) fun r2 p4 a2 b2 hp4 => ?_
    have c1 : -(cap : Int) ≤ r2 := by rw [cap_eq]; omega
    have c2 : r2 ≤ (cap : Int) := by rw [cap_eq]; omega
    simp [c1, c2]
    refine wp_forI (TnI ns i n) ⟨p4, ws, a4, a5, hp4, hw, h4, h5, rfl⟩ ?_ ?_
    · rintro j d ρ hj ⟨p5, ws, a4, a5, hp5, hw, h4, h5, rfl⟩
      have hjl : j < r2.toNat := by
        have := (List.getElem?_eq_some_iff.mp hj).1
        rw [rangeD_len] at this
        omega
      simp [eH, putS_val, h4]
      refine take_wp hp5 (by omega) (by omega) fun r3 p6 a3 b3 hp6 => ?_
      obtain ⟨o, ho, _, go⟩ := str_at (ns := ns) a3 (by omega)
      have hq : inB [.tup [.str n, .str o], .lst (ws.map wayD)] = some (decide ((n, o) ∈ ws)) := in_ways_l (w := (n, o)) (ws := ws)
      have hwl := hw.len
      have hc : ws.length < cap := by rw [cap_eq]; omega
      simp [go, putS_val, h5.ok, hq, show 2 ≤ cap by decide]
      by_cases hx : (n, o) ∈ ws
      · simp [hx]
        exact ⟨p6, ws, _, _, hp6, ⟨hw.nd, by omega, hw.inn⟩, rfl, .inr ⟨_, rfl⟩, rfl⟩
      · simp [hx, appendM, hc]
        refine ⟨p6, ws ++ [(n, o)], some (.val d), some (.val (.tup [.str n, .str o])), hp6, ⟨?_, by rw [List.length_append]; simp; omega, fun w hw' => ?_⟩, rfl, .inr ⟨_, rfl⟩, by simp [eH, wayD]⟩
        · rw [List.nodup_append]
          exact ⟨hw.nd, by simp, fun x hx' y hy e => by simp at hy; subst hy e; exact hx hx'⟩
        · rcases List.mem_append.mp hw' with h | h
          · exact hw.inn w h
          · simp at h; subst h; exact ⟨hnm, ho⟩
    · rintro ρ ⟨p5, ws, a4, a5, hp5, hw, h4, h5, rfl⟩
      rw [rangeD_len] at hw
      have := hw.len
      exact ⟨p5, ws, _, a4, a5, hp5, ⟨hw.nd, by omega, hw.inn⟩, rfl, h4, h5, rfl⟩
  · rintro ρ ⟨p3, vs, a3, a4, a5, hp3, hw, h3, h4, h5, rfl⟩
    rw [List.length_map] at hw
    have hvl := hw.len
    have Hn : Net ns vs := ⟨by omega, by omega, hn.nd, hn.nm, by omega, hw.nd, hw.inn⟩
    have hc2 : vs.length + vs.length ≤ cap := by rw [cap_eq]; omega
    have hs : List.map (fun w : Str × Str => D.str w.1) vs ++ List.map (fun w : Str × Str => D.str w.2) vs = (vs.map Prod.fst ++ vs.map Prod.snd).map D.str := by rw [List.map_append, List.map_map, List.map_map]; rfl
    rcases h5 with rfl | ⟨d5, rfl⟩
    all_goals
      simp [eH]
      refine wp_lcA (fun w => D.str w.1) (fun w _ => by simp [putS_val, wayD, at_nat]) ?_
      simp
      refine wp_lcA (fun w => D.str w.2) (fun w _ => by simp [putS_val, wayD, at_nat]) ?_
      simp [hc2, putS_fresh]
      rw [hs]
      refine wp_lcAF (fun n => !decide (n ∈ vs.map Prod.fst ++ vs.map Prod.snd)) D.str (fun n _ => ?_) ?_
      · by_cases hx : n ∈ vs.map Prod.fst ++ vs.map Prod.snd <;> simp [-List.map_append, -List.mem_append, putS_val, in_strs_l, hx]
      · simp [-List.map_append, -List.mem_append, show 3 ≤ cap by decide]
        exact ⟨ns, vs, ⟨rfl, rfl, rfl⟩, Hn, hp3⟩
theorem drawn_wp {p : D} {Q : Bool → D → List D → Prop} (hp : Pu p) (k : ∀ ns ws p', Net ns ws → Pu p' → Q false (.tup [.lst (ns.map .str), .lst (ws.map wayD), .lst ((loneL ns ws).map .str)]) [p']) : (f__law_drawn.run [p]).wp Q := by
  simp [f__law_drawn, m__law_drawn]
  refine take_wp hp (by omega) (by omega) fun r p1 a1 b1 hp1 => ?_
  by_cases hr : r = 5
  · simp [hr]
    refine FR.wp_mono (broad_spec hp1) ?_
    rintro _ _ _ ⟨rfl, ns, ws, p', rfl, a, rfl, c⟩
    simp
    exact k ns ws p' a c
  · simp [hr]
    refine net_wp hp1 (by omega) (by omega) fun ns ws p2 hN hl hp2 => ?_
    simp
    exact k ns ws p2 hN hp2
/-! ### a Web, made in one of three ways -/
theorem web_rev (h : Net ns ws) : f_Web___init__.run [.obj "Web" [] [], .tup (ws.map wayD), .tup ((loneL ns ws).reverse.map .str)] = .ret false .non [webD ws (loneL ns ws)] := by
  obtain ⟨g1, g2, g3⟩ := net_good (al := loneL ns ws) h (List.Perm.refl ws) rfl
  have hlen := g3.length_eq
  rw [List.length_append] at hlen
  have l0 := h.l0
  have l1 := h.l1
  have hrev := List.reverse_perm (loneL ns ws)
  have ga : GoodA (loneL ns ws).reverse (jn ws) := ⟨hrev.nodup_iff.mpr g2.nd, fun a ha => g2.nm a (List.mem_reverse.mp ha), fun a ha => g2.off a (List.mem_reverse.mp ha)⟩
  have e : webD ws (loneL ns ws).reverse = webD ws (loneL ns ws) := by
    unfold webD webPl
    rw [sortS_eq (hrev.append_left (sortS (jn ws)))]
  rw [← e]
  exact web_run g1 ga (by rw [List.length_reverse]; omega) (by rw [List.length_reverse]; omega)
theorem eq_nil {l : List Str} : eqD [.lst (l.map .str), .lst []] = some (.val (.bl (decide (l = [])))) := by
  cases l with
  | nil => rfl
  | cons r ro =>
    have h1 := plains_strs ro
    simp [eqD, RF.plain, plains, h1, eqb, eqbs, dep, deps]
theorem made_wp {p : D} {Q : Bool → D → List D → Prop} (hp : Pu p) (h : Net ns ws) (k : ∀ p', Pu p' → Q true (webD ws (loneL ns ws)) [p']) : (f__law_made.run [p, .lst (ws.map wayD), .lst ((loneL ns ws).map .str)]).wp Q := by
  have n1 := netweb_run h
  have n2 := web_rev h
  simp only [f__law_made, m__law_made]
  generalize hal : loneL ns ws = al at n1 n2 k
  simp
  refine take_wp hp (by omega) (by omega) fun r p1 a1 b1 hp1 => ?_
  have rv : revD [.lst (al.map .str)] = some (.fresh (.lst (al.reverse.map .str))) := by simp [revD]
  simp [putS_val, eq_nil, show 0 ≤ cap by decide]
  by_cases h1 : al = []
  · subst h1
    simp only [List.map_nil, List.reverse_nil] at n1 n2
    by_cases r0 : r = 0
    · subst r0
      simp [pick, n1]
      exact k p1 hp1
    · by_cases r1 : r = 1
      · subst r1
        simp [pick, n1]
        exact k p1 hp1
      · have rv0 : revD [.lst []] = some (.fresh (.lst [])) := rfl
        simp [r0, r1, pick, n1, rv0]
        exact k p1 hp1
  · by_cases r1 : r = 1
    · subst r1
      simp [h1, pick, n1]
      exact k p1 hp1
    · simp only [List.map_reverse] at n2 rv
      simp [h1, r1, pick, n2, rv]
      exact k p1 hp1
/-! ### what is asked -/
theorem goals_run {p : Str} : f__law_goals.run [.lst (ws.map wayD), .str p] = .ret false (.tup ((onw ws p).map .str)) [] := by
  refine FR.eq_of ?_
  simp [f__law_goals, m__law_goals]
  refine wp_lcAF (fun w => decide (w.1 = p)) (fun w => D.str w.2) (fun w _ => ?_) ?_
  · by_cases hw : w.1 = p <;> simp [wayD, putS_val, at_nat, hw]
  · have e : ((ws.filter fun w => decide (w.1 = p)).map fun w => D.str w.2) = ((ws.filter fun w => decide (w.1 = p)).map Prod.snd).map D.str := by rw [List.map_map]; rfl
    rw [e]
    simp [-List.map_map, onw_sorted]
def TxI (ns : List Str) (ws : List (Str × Str)) (ps : List Str) (i : Nat) (ρ : RF.Env) : Prop := ∃ a, okS a = true ∧ ρ = [some (.val (.lst (ns.map .str))), some (.val (.lst (ws.map wayD))), some (.own (.lst (((ps.take i).map (rowT ws)).map .str))), a]
theorem text_run (h : Net ns ws) : f__law_text.run [.lst (ns.map .str), .lst (ws.map wayD)] = .ret false (.str (textT ws (sortS ns))) [] := by
  refine FR.eq_of ?_
  have hp := sortS_perm ns
  have hl := hp.length_eq
  have h1 := h.l1
  simp [f__law_text, m__law_text, putS_fresh, show 0 ≤ cap by decide]
  refine wp_forI (TxI ns ws (sortS ns)) ⟨none, rfl, by simp⟩ ?_ ?_
  · rintro i d ρ hi ⟨a, ha, rfl⟩
    obtain ⟨p, hpi, rfl⟩ := map_get hi
    have hmn : p ∈ ns := hp.mem_iff.mp (List.mem_of_getElem? hpi)
    have hil := (List.getElem?_eq_some_iff.mp hpi).1
    have hol : 2 + (onw ws p).length ≤ cap := by
      have := (rowL_len h hmn).1
      unfold rowL at this
      rw [List.length_append] at this
      simp at this
      rw [cap_eq]; omega
    have hj := join_row h hmn
    have hc : min i (sortS ns).length < cap := by rw [cap_eq]; omega
    simp [putS_val, ha, goals_run, hol, hj, appendM, hc, show 2 ≤ cap by decide]
    refine ⟨some (.val (.str p)), rfl, ?_⟩
    rw [take_up hpi]
    simp
  · rintro ρ ⟨a, ha, rfl⟩
    rw [List.length_map, List.take_length]
    have hj := join_text h (ps := sortS ns) (fun p hp' => hp.mem_iff.mp hp') (by omega)
    simp [-List.map_map, hj]
theorem ne_ways {vs : List (Str × Str)} : neD [.tup (vs.map wayD), .tup (vs.map wayD)] = some (.val (.bl false)) := by
  have h1 := plains_ways vs
  have h2 := deps_ways vs
  have h3 := eqbs_mp (f := wayD) (fun a => by simp [eqb_way]) vs
  simp [neD, RF.plain, h1, eqb, h3, dep, show deps (vs.map wayD) + 1 ≤ 60 by omega]
theorem ne_strs {l : List Str} : neD [.tup (l.map .str), .tup (l.map .str)] = some (.val (.bl false)) := by
  have := ne_rw (a := l) (b := l)
  simpa [rwD] using this
theorem bls_true {α : Type} {xs : List α} : bls (xs.map fun _ => D.bl true) = some (xs.map fun _ => true) := bls_fun (xs := xs) (f := fun _ => true)
theorem ne_bb {i j : Bool} : neD [.bl i, .bl j] = some (.val (.bl (!(i == j)))) := by simp [neD, RF.plain, dep, eqb]
theorem values_run (h : Net ns ws) : f__law_values_right.run [webD ws (loneL ns ws), .lst (ns.map .str), .lst (ws.map wayD)] = .ret false (.bl true) [] := by
  refine FR.eq_of ?_
  have h1 := h.l1
  have h2 := h.wl
  have o1 := intOk_small (n := ns.length) (by omega)
  have o2 := intOk_small (n := ws.length) (by omega)
  have l1 := intS_len (n := ns.length) (by omega)
  have l2 := intS_len (n := ws.length) (by omega)
  have lc : ∀ k : Nat, k ≤ 100 → k ≤ cap := fun k hk => by rw [cap_eq]; omega
  have q1 : (Str.ofString "Web(").length = 4 := rfl
  have q2 : (Str.ofString " places, ").length = 9 := rfl
  have q3 : (Str.ofString " ways)").length = 6 := rfl
  have e0 : Str.empty ++ Str.ofString "Web(" = Str.ofString "Web(" := rfl
  have hR := reprX_web h
  have hS := strX_web h
  have hL := lenX_web h
  have hB := boolX_web h
  have hw := fld_ways (us := ws) (al := loneL ns ws)
  have hp := fld_places (us := ws) (al := loneL ns ws)
  rw [pl_sort h] at hp
  rw [e0] at hR
  generalize webD ws (loneL ns ws) = w at hR hS hL hB hw hp
  simp [f__law_values_right, m__law_values_right, hw, hp, isi_tuple (kn_tup), isTupD, ne_ways, ne_strs, hL, hB, hS, text_run h]
  refine wp_lcA (fun _ => D.bl true) (fun v _ => ?_) ?_
  · simp [putS_val, wayD, isi_tuple (kn_tup), isTupD]
  · simp [bls_true, hR, o1, o2, len_append, q1, q2, q3]
    exact ⟨lc _ (by omega), lc _ (by omega), lc _ (by omega), lc _ (by omega)⟩
end
end K02
end
section
namespace K02
open PySem L2 RF
section
variable {ns : List Str} {ws : List (Str × Str)}
theorem nc_onward : ([("ways" : Str), ("places" : Str)] : List Str).contains ("onward" : Str) = false := by decide
theorem nc_has : ([("ways" : Str), ("places" : Str)] : List Str).contains ("has" : Str) = false := by decide
def eA (ns : List Str) (ws : List (Str × Str)) (w : D) (a3 a4 a5 : Option SV) : RF.Env := [some (.val w), some (.val (.lst (ns.map .str))), some (.val (.lst (ws.map wayD))), a3, a4, a5]
def A1 (ns : List Str) (ws : List (Str × Str)) (w : D) (i : Nat) (ρ : RF.Env) : Prop := ∃ a3 a4 a5, okS a3 = true ∧ okS a4 = true ∧ okS a5 = true ∧ ρ = eA ns ws w a3 a4 a5
def A2 (ns : List Str) (ws : List (Str × Str)) (w : D) (a3 a5 : Option SV) (i : Nat) (ρ : RF.Env) : Prop := ∃ a4, okS a4 = true ∧ ρ = eA ns ws w a3 a4 a5
def A3 (ns : List Str) (ws : List (Str × Str)) (w : D) (a3 : Option SV) (i : Nat) (ρ : RF.Env) : Prop := ∃ a4 a5, okS a4 = true ∧ okS a5 = true ∧ ρ = eA ns ws w a3 a4 a5
theorem two_mem {x d : D} {i : Nat} (h : [x, x][i]? = some d) : d = x := by
  have := List.mem_of_getElem? h
  simpa using this
theorem asked_run (h : Net ns ws) : f__law_asked_right.run [webD ws (loneL ns ws), .lst (ns.map .str), .lst (ws.map wayD)] = .ret false (.bl true) [] := by
  refine FR.eq_of ?_
  have hpl := net_pl h
  simp [f__law_asked_right, m__law_asked_right]
  refine wp_forI (A1 ns ws (webD ws (loneL ns ws))) ⟨none, none, none, rfl, rfl, rfl, rfl⟩ ?_ ?_
  · rintro i d ρ hi ⟨a3, a4, a5, h3, h4, h5, rfl⟩
    obtain ⟨p, hp, rfl⟩ := map_get hi
    have hpn := hpl.mem_iff.mpr (List.mem_of_getElem? hp)
    simp [eA, putS_val, h3, ao_web, lk_web, pick, noFresh, onward_run hpn, show 2 ≤ cap by decide]
    refine ⟨by decide, ?_⟩
    refine wp_forI (A2 ns ws (webD ws (loneL ns ws)) (some (.val (.str p))) a5) ⟨a4, h4, rfl⟩ ?_ ?_
    · rintro j d ρ hj ⟨a4, h4, rfl⟩
      have := two_mem hj
      subst this
      simp [eA, putS_val, h4, isi_tuple (kn_tup), isTupD, goals_run, ne_strs]
      exact ⟨_, rfl, rfl⟩
    · rintro ρ ⟨a4, h4, rfl⟩
      simp [eA]
      refine wp_forI (A3 ns ws (webD ws (loneL ns ws)) (some (.val (.str p)))) ⟨a4, a5, h4, h5, rfl⟩ ?_ ?_
      · rintro j d ρ hj ⟨a4, a5, h4, h5, rfl⟩
        obtain ⟨q, hq, rfl⟩ := map_get hj
        have hqn := hpl.mem_iff.mpr (List.mem_of_getElem? hq)
        simp [eA, putS_val, h5, ao_web, lk_web, pick, noFresh, has_run hpn hqn, show 2 ≤ cap by decide]
        refine ⟨by decide, ?_⟩
        refine wp_forI (A2 ns ws (webD ws (loneL ns ws)) (some (.val (.str p))) (some (.val (.str q)))) ⟨a4, h4, rfl⟩ ?_ ?_
        · rintro l d ρ hl ⟨a4, h4, rfl⟩
          have := two_mem hl
          subst this
          have hin : inB [.tup [.str p, .str q], .lst (ws.map wayD)] = some (decide ((p, q) ∈ ws)) := in_ways_l (w := (p, q)) (ws := ws)
          have kb : isiD cs fs [.bl (decide ((p, q) ∈ ws)), .ty "bool"] = some (.val (.bl true)) := by rw [isi_bool (kn_bl)]; rfl
          simp [eA, putS_val, h4, kb, hin, ne_bb, show 2 ≤ cap by decide]
          exact ⟨_, rfl, rfl⟩
        · rintro ρ ⟨a4, h4, rfl⟩
          exact ⟨a4, _, h4, rfl, rfl⟩
      · rintro ρ ⟨a4, a5, h4, h5, rfl⟩
        exact ⟨_, a4, a5, rfl, h4, h5, rfl⟩
  · rintro ρ ⟨a3, a4, a5, h3, h4, h5, rfl⟩
    simp [eA]
/-! ### the law -/
def wa : List (Str × Str) := [("a", "a")]
theorem a_net : Net ["a"] wa := ⟨by decide, by decide, by decide, by decide, by decide, by decide, by decide⟩
theorem a_lone : loneL ["a"] wa = [] := by decide
theorem sort1 {α : Type} {le : α → α → Bool} {x : α} : [x].mergeSort le = [x] := by simp
theorem a_text : textT wa (sortS ["a"]) = "a > a" := by
  have e1 : sortS (["a"] : List Str) = (["a"] : List Str) := sort1
  have e2 : onw wa "a" = (["a"] : List Str) := by
    unfold onw
    have : sortW wa = wa := sort1
    rw [this]; decide
  unfold textT
  rw [e1]
  simp only [List.map_cons, List.map_nil, rowT, rowL, e2]
  decide
end
def LwI (sc : List Int) (w1 : D) (i : Nat) (ρ : RF.Env) : Prop := ∃ a2 a3 a4 a5 a6 a7 a8, okS a2 = true ∧ okS a3 = true ∧ okS a4 = true ∧ okS a5 = true ∧ okS a6 = true ∧ okS a7 = true ∧ okS a8 = true ∧ ρ = [some (.val (.lst (sc.map .int))), some (.own w1), a2, a3, a4, a5, a6, a7, a8]
def eQ (sc : List Int) (w1 : D) (a2 : Option SV) (p : D) (ns : List Str) (ws : List (Str × Str)) (a7 a8 : Option SV) : RF.Env := [some (.val (.lst (sc.map .int))), some (.own w1), a2, some (.own p), some (.val (.lst (ns.map .str))), some (.val (.lst (ws.map wayD))), some (.val (.lst ((loneL ns ws).map .str))), a7, a8]
def TwI (sc : List Int) (w1 : D) (a2 : Option SV) (p : D) (ns : List Str) (ws : List (Str × Str)) (i : Nat) (ρ : RF.Env) : Prop := ∃ a7 a8, (a7 = some (.own (webD ws (loneL ns ws))) ∨ a7 = some (.val (webD ws (loneL ns ws)))) ∧ okS a8 = true ∧ ρ = eQ sc w1 a2 p ns ws a7 a8
theorem law_run {sc : List Int} (hn : sc.length ≤ 63) : f_law.run [.lst (sc.map D.int)] = .ret false (.bl true) [] := by
  refine FR.eq_of ?_
  have nw := netweb_run a_net
  have hS := strX_web a_net
  have hR := reprX_web a_net
  have hL := lenX_web a_net
  have hw := fld_ways (us := wa) (al := loneL ["a"] wa)
  rw [a_lone] at nw hS hR hL hw
  rw [a_text] at hS
  have ew : (sortW wa).map wayD = [.tup [.str "a", .str "a"]] := by rw [show sortW wa = wa from sort1]; rfl
  rw [ew] at hw
  have er : Str.empty ++ "Web(" ++ intS (((["a"] : List Str).length : Nat) : Int) ++ " places, " ++ intS ((wa.length : Nat) : Int) ++ " ways)" = Str.ofString "Web(1 places, 1 ways)" := by decide +kernel
  rw [er] at hR
  have nw1 : neD [.tup [.tup [.str "a", .str "a"]], .tup [.tup [.str "a", .str "a"]]] = some (.val (.bl false)) := ne_ways (vs := wa)
  have e1 : wa.map wayD = [.tup [.str "a", .str "a"]] := rfl
  rw [e1] at nw
  simp only [List.map_nil] at nw
  have hl1 : (((["a"] : List Str).length : Nat) : Int) = 1 := rfl
  rw [hl1] at hL
  generalize webD wa [] = w1 at nw hS hR hL hw
  simp [f_law, m_law, pick, nw, putS_fresh, hw, nw1, hS, hR, show 1 ≤ cap by decide, show 2 ≤ cap by decide]
  have hm : (0 : Int) ≤ (if 2 < if (sc.length : Int) < 6 then (sc.length : Int) else 6 then if (sc.length : Int) < 6 then (sc.length : Int) else 6 else 2) ∧ (if 2 < if (sc.length : Int) < 6 then (sc.length : Int) else 6 then if (sc.length : Int) < 6 then (sc.length : Int) else 6 else 2) ≤ 12 := by
    split <;> split <;> omega
  generalize (if 2 < if (sc.length : Int) < 6 then (sc.length : Int) else 6 then if (sc.length : Int) < 6 then (sc.length : Int) else 6 else 2) = m at hm
  refine ⟨⟨by rw [cap_eq]; omega, by rw [cap_eq]; omega⟩, ?_⟩
  refine wp_forI (LwI sc w1) ⟨none, none, none, none, none, none, none, rfl, rfl, rfl, rfl, rfl, rfl, rfl, rfl⟩ ?_ ?_
  · rintro i d ρ hi ⟨a2, a3, a4, a5, a6, a7, a8, h2, h3, h4, h5, h6, h7, h8, rfl⟩
    obtain ⟨rfl, hlt⟩ := rangeD_get hi
    simp [putS_val, h2]
    refine FR.wp_mono (purse_spec (by omega) (by omega) hn) ?_
    rintro _ _ _ ⟨rfl, rfl, hp1⟩
    simp [putS_fresh, h3]
    refine drawn_wp hp1 fun ns ws p2 hN hp2 => ?_
    simp [putS_val, h4, h5, h6]
    refine made_wp hp2 hN fun p3 hp3 => ?_
    simp [putS_fresh, h7, show -(cap : Int) ≤ 2 by decide, show (2 : Int) ≤ cap by decide]
    refine wp_forI (TwI sc w1 (some (.val (.int (i : Int)))) p3 ns ws) ⟨_, a8, .inl rfl, h8, rfl⟩ ?_ ?_
    · rintro j d ρ hj ⟨a7, a8, h7, h8, rfl⟩
      rcases h7 with rfl | rfl
      all_goals
        simp [eQ, putS_val, h8, values_run hN, asked_run hN]
        exact ⟨_, _, .inr rfl, rfl, rfl⟩
    · rintro ρ ⟨a7, a8, h7, h8, rfl⟩
      refine ⟨_, _, _, _, _, a7, a8, rfl, rfl, rfl, rfl, rfl, ?_, h8, rfl⟩
      rcases h7 with rfl | rfl <;> rfl
  · rintro ρ ⟨a2, a3, a4, a5, a6, a7, a8, h2, h3, h4, h5, h6, h7, h8, rfl⟩
    simp [hL]
end K02
end
section
/-! the link; printed by gen.py -/
namespace K02
open PySem L2 RF
def topS (i : Nat) : Stmt := PySem.Challenge.pw_ringfall_k02_webs_with_their_ways.main.body.getD i (.Pass ⟨0, 0, 0, 0⟩)
abbrev s_is_name : Stmt := topS 13
abbrev s_is_way : Stmt := topS 14
abbrev s_check_ways : Stmt := topS 15
abbrev s_check_alone : Stmt := topS 16
abbrev s_Web___init__ : Stmt := inClass (topS 17) 0
abbrev s_Web___len__ : Stmt := inClass (topS 17) 3
abbrev s_check_place : Stmt := topS 18
abbrev s_Web_onward : Stmt := inClass (topS 17) 1
abbrev s_Web___str__ : Stmt := inClass (topS 17) 5
abbrev s_Web___repr__ : Stmt := inClass (topS 17) 6
abbrev s__law_purse : Stmt := topS 20
abbrev s__law_take : Stmt := topS 21
abbrev s__law_unlike : Stmt := topS 22
abbrev s__law_net : Stmt := topS 23
abbrev s__law_broad : Stmt := topS 24
abbrev s__law_drawn : Stmt := topS 25
abbrev s__law_made : Stmt := topS 26
abbrev s__law_goals : Stmt := topS 27
abbrev s__law_text : Stmt := topS 28
abbrev s__law_values_right : Stmt := topS 29
abbrev s_Web_has : Stmt := inClass (topS 17) 2
abbrev s__law_asked_right : Stmt := topS 30
abbrev s_law : Stmt := topS 31
theorem sc_is_name : FnScope ["thing", "sign"] ["thing"] (defScope s_is_name) := ⟨rfl, rfl, rfl, by decide +kernel, rfl, by decide +kernel, by decide +kernel⟩
theorem sc_is_way : FnScope ["thing"] ["thing"] (defScope s_is_way) := ⟨rfl, rfl, rfl, by decide +kernel, rfl, by decide +kernel, by decide +kernel⟩
theorem sc_check_ways : FnScope ["ways", "number", "way"] ["ways"] (defScope s_check_ways) := ⟨rfl, rfl, rfl, by decide +kernel, rfl, by decide +kernel, by decide +kernel⟩
theorem sc_check_alone : FnScope ["alone", "joined", "number", "name"] ["alone", "joined"] (defScope s_check_alone) := ⟨rfl, rfl, rfl, by decide +kernel, rfl, by decide +kernel, by decide +kernel⟩
theorem sc_Web___init__ : FnScope ["self", "ways", "alone", "joined", "way", "place", "many"] ["self", "ways", "alone"] (defScope s_Web___init__) := ⟨rfl, rfl, rfl, by decide +kernel, rfl, by decide +kernel, by decide +kernel⟩
theorem sc_Web___len__ : FnScope ["self"] ["self"] (defScope s_Web___len__) := ⟨rfl, rfl, rfl, by decide +kernel, rfl, by decide +kernel, by decide +kernel⟩
theorem sc_check_place : FnScope ["web", "place"] ["web", "place"] (defScope s_check_place) := ⟨rfl, rfl, rfl, by decide +kernel, rfl, by decide +kernel, by decide +kernel⟩
theorem sc_Web_onward : FnScope ["self", "place", "one", "other"] ["self", "place"] (defScope s_Web_onward) := ⟨rfl, rfl, rfl, by decide +kernel, rfl, by decide +kernel, by decide +kernel⟩
theorem sc_Web___str__ : FnScope ["self", "rows", "place"] ["self"] (defScope s_Web___str__) := ⟨rfl, rfl, rfl, by decide +kernel, rfl, by decide +kernel, by decide +kernel⟩
theorem sc_Web___repr__ : FnScope ["self"] ["self"] (defScope s_Web___repr__) := ⟨rfl, rfl, rfl, by decide +kernel, rfl, by decide +kernel, by decide +kernel⟩
theorem sc__law_purse : FnScope ["_law_script", "_law_k", "_law_cell"] ["_law_script", "_law_k"] (defScope s__law_purse) := ⟨rfl, rfl, rfl, by decide +kernel, rfl, by decide +kernel, by decide +kernel⟩
theorem sc__law_take : FnScope ["_law_purse_here", "_law_many", "_law_found"] ["_law_purse_here", "_law_many"] (defScope s__law_take) := ⟨rfl, rfl, rfl, by decide +kernel, rfl, by decide +kernel, by decide +kernel⟩
theorem sc__law_unlike : FnScope ["_law_purse_here", "_law_many", "_law_letters", "_law_menu", "_law_first", "_law_way", "_law_k", "_law_stem", "_law_at", "_law_begin"] ["_law_purse_here", "_law_many"] (defScope s__law_unlike) := ⟨rfl, rfl, rfl, by decide +kernel, rfl, by decide +kernel, by decide +kernel⟩
theorem sc__law_net : FnScope ["_law_purse_here", "_law_most", "_law_names", "_law_thick", "_law_lanes", "_law_spot", "_law_goal", "_law_turn", "_law_bound", "_law_lane", "_law_name"] ["_law_purse_here", "_law_most"] (defScope s__law_net) := ⟨rfl, rfl, rfl, by decide +kernel, rfl, by decide +kernel, by decide +kernel⟩
theorem sc__law_broad : FnScope ["_law_purse_here", "_law_names", "_law_lanes", "_law_spot", "_law_turn", "_law_lane", "_law_bound", "_law_name"] ["_law_purse_here"] (defScope s__law_broad) := ⟨rfl, rfl, rfl, by decide +kernel, rfl, by decide +kernel, by decide +kernel⟩
theorem sc__law_drawn : FnScope ["_law_purse_here"] ["_law_purse_here"] (defScope s__law_drawn) := ⟨rfl, rfl, rfl, by decide +kernel, rfl, by decide +kernel, by decide +kernel⟩
theorem sc__law_made : FnScope ["_law_purse_here", "_law_lanes", "_law_lone", "_law_way"] ["_law_purse_here", "_law_lanes", "_law_lone"] (defScope s__law_made) := ⟨rfl, rfl, rfl, by decide +kernel, rfl, by decide +kernel, by decide +kernel⟩
theorem sc__law_goals : FnScope ["_law_lanes", "_law_spot", "_law_lane"] ["_law_lanes", "_law_spot"] (defScope s__law_goals) := ⟨rfl, rfl, rfl, by decide +kernel, rfl, by decide +kernel, by decide +kernel⟩
theorem sc__law_text : FnScope ["_law_names", "_law_lanes", "_law_rows", "_law_name"] ["_law_names", "_law_lanes"] (defScope s__law_text) := ⟨rfl, rfl, rfl, by decide +kernel, rfl, by decide +kernel, by decide +kernel⟩
theorem sc__law_values_right : FnScope ["_law_web", "_law_names", "_law_lanes", "_law_lane"] ["_law_web", "_law_names", "_law_lanes"] (defScope s__law_values_right) := ⟨rfl, rfl, rfl, by decide +kernel, rfl, by decide +kernel, by decide +kernel⟩
theorem sc_Web_has : FnScope ["self", "one", "other"] ["self", "one", "other"] (defScope s_Web_has) := ⟨rfl, rfl, rfl, by decide +kernel, rfl, by decide +kernel, by decide +kernel⟩
theorem sc__law_asked_right : FnScope ["_law_web", "_law_names", "_law_lanes", "_law_spot", "_law_told", "_law_goal"] ["_law_web", "_law_names", "_law_lanes"] (defScope s__law_asked_right) := ⟨rfl, rfl, rfl, by decide +kernel, rfl, by decide +kernel, by decide +kernel⟩
theorem sc_law : FnScope ["_law_script", "_law_first", "_law_k", "_law_purse_here", "_law_names", "_law_lanes", "_law_lone", "_law_web", "_law_turn"] ["_law_script"] (defScope s_law) := ⟨rfl, rfl, rfl, by decide +kernel, rfl, by decide +kernel, by decide +kernel⟩
def inz : List (Str × Int) := [("MOST_LETTERS", 8), ("MOST_WAYS", 60), ("MOST_IN_WEB", 16)]
def stz : List (Str × Str) := [("LETTERS", "abcdefghijklmnopqrstuvwxyz")]
def fr : List Str := ["all", "bool", "enumerate", "isinstance", "len", "list", "max", "min", "range", "repr", "sorted", "str", "tuple"]
def d_is_name : He.DefD := ⟨("is_name", none), "is_name", "is_name", defArgs s_is_name, defBody s_is_name, defScope s_is_name, [], []⟩
def d_is_way : He.DefD := ⟨("is_way", none), "is_way", "is_way", defArgs s_is_way, defBody s_is_way, defScope s_is_way, [], []⟩
def d_check_ways : He.DefD := ⟨("check_ways", none), "check_ways", "check_ways", defArgs s_check_ways, defBody s_check_ways, defScope s_check_ways, [], []⟩
def d_check_alone : He.DefD := ⟨("check_alone", none), "check_alone", "check_alone", defArgs s_check_alone, defBody s_check_alone, defScope s_check_alone, [], []⟩
def d_Web___init__ : He.DefD := ⟨("Web", some "__init__"), "__init__", "Web.__init__", defArgs s_Web___init__, defBody s_Web___init__, defScope s_Web___init__, [], [("alone", .adr (kwAt ("Web", some "__init__") "alone"))]⟩
def d_Web___len__ : He.DefD := ⟨("Web", some "__len__"), "__len__", "Web.__len__", defArgs s_Web___len__, defBody s_Web___len__, defScope s_Web___len__, [], []⟩
def d_check_place : He.DefD := ⟨("check_place", none), "check_place", "check_place", defArgs s_check_place, defBody s_check_place, defScope s_check_place, [], []⟩
def d_Web_onward : He.DefD := ⟨("Web", some "onward"), "onward", "Web.onward", defArgs s_Web_onward, defBody s_Web_onward, defScope s_Web_onward, [], []⟩
def d_Web___str__ : He.DefD := ⟨("Web", some "__str__"), "__str__", "Web.__str__", defArgs s_Web___str__, defBody s_Web___str__, defScope s_Web___str__, [], []⟩
def d_Web___repr__ : He.DefD := ⟨("Web", some "__repr__"), "__repr__", "Web.__repr__", defArgs s_Web___repr__, defBody s_Web___repr__, defScope s_Web___repr__, [], []⟩
def d__law_purse : He.DefD := ⟨("_law_purse", none), "_law_purse", "_law_purse", defArgs s__law_purse, defBody s__law_purse, defScope s__law_purse, [], []⟩
def d__law_take : He.DefD := ⟨("_law_take", none), "_law_take", "_law_take", defArgs s__law_take, defBody s__law_take, defScope s__law_take, [], []⟩
def d__law_unlike : He.DefD := ⟨("_law_unlike", none), "_law_unlike", "_law_unlike", defArgs s__law_unlike, defBody s__law_unlike, defScope s__law_unlike, [], []⟩
def d__law_net : He.DefD := ⟨("_law_net", none), "_law_net", "_law_net", defArgs s__law_net, defBody s__law_net, defScope s__law_net, [], []⟩
def d__law_broad : He.DefD := ⟨("_law_broad", none), "_law_broad", "_law_broad", defArgs s__law_broad, defBody s__law_broad, defScope s__law_broad, [], []⟩
def d__law_drawn : He.DefD := ⟨("_law_drawn", none), "_law_drawn", "_law_drawn", defArgs s__law_drawn, defBody s__law_drawn, defScope s__law_drawn, [], []⟩
def d__law_made : He.DefD := ⟨("_law_made", none), "_law_made", "_law_made", defArgs s__law_made, defBody s__law_made, defScope s__law_made, [], []⟩
def d__law_goals : He.DefD := ⟨("_law_goals", none), "_law_goals", "_law_goals", defArgs s__law_goals, defBody s__law_goals, defScope s__law_goals, [], []⟩
def d__law_text : He.DefD := ⟨("_law_text", none), "_law_text", "_law_text", defArgs s__law_text, defBody s__law_text, defScope s__law_text, [], []⟩
def d__law_values_right : He.DefD := ⟨("_law_values_right", none), "_law_values_right", "_law_values_right", defArgs s__law_values_right, defBody s__law_values_right, defScope s__law_values_right, [], []⟩
def d_Web_has : He.DefD := ⟨("Web", some "has"), "has", "Web.has", defArgs s_Web_has, defBody s_Web_has, defScope s_Web_has, [], []⟩
def d__law_asked_right : He.DefD := ⟨("_law_asked_right", none), "_law_asked_right", "_law_asked_right", defArgs s__law_asked_right, defBody s__law_asked_right, defScope s__law_asked_right, [], []⟩
def d_law : He.DefD := ⟨("law", none), "law", "law", defArgs s_law, defBody s_law, defScope s_law, [], []⟩
def fn : List He.DefD := [d_is_name, d_is_way, d_check_ways, d_check_alone, d_Web___init__, d_Web___len__, d_check_place, d_Web_onward, d_Web___str__, d_Web___repr__, d__law_purse, d__law_take, d__law_unlike, d__law_net, d__law_broad, d__law_drawn, d__law_made, d__law_goals, d__law_text, d__law_values_right, d_Web_has, d__law_asked_right, d_law]
def fax : List Fc := [nolB, gloB "is_name", gloB "is_way", gloB "check_ways", gloB "check_alone", mkB "Web", gloB "Web", (fun K => (He.Fa.cls "Web").ok K), mtB ("Web", "__len__"), gloB "check_place", mtB ("Web", "onward"), mtB ("Web", "__str__"), mtB ("Web", "__repr__"), gloB "_law_purse", gloB "_law_take", gloB "_law_unlike", gloB "_law_net", gloB "_law_broad", gloB "_law_drawn", gloB "_law_made", gloB "_law_goals", gloB "_law_text", gloB "_law_values_right", mtB ("Web", "has"), gloB "_law_asked_right", gloB "law", tup0B (kwAt ("Web", some "__init__") "alone")]
def fa : List Fc := facts0 inz stz fr cs fs fl ++ fax
def T0 : Tbl := tbl0 inz stz fr cs fs fl
theorem eq_is_name : semOf T0 0 ["thing", "sign"] [false] (defScope s_is_name) (defBody s_is_name) = f_is_name := by kernel_rfl
def T1 : Tbl := T0.addG "is_name" (.fn f_is_name 1 (some 1) [])
theorem eq_is_way : semOf T1 1 ["thing"] [false] (defScope s_is_way) (defBody s_is_way) = f_is_way := by kernel_rfl
def T2 : Tbl := T1.addG "is_way" (.fn f_is_way 2 (some 1) [])
theorem eq_check_ways : semOf T2 2 ["ways", "number", "way"] [false] (defScope s_check_ways) (defBody s_check_ways) = f_check_ways := by kernel_rfl
def T3 : Tbl := T2.addG "check_ways" (.fn f_check_ways 3 (some 1) [])
theorem eq_check_alone : semOf T3 1 ["alone", "joined", "number", "name"] [false, false] (defScope s_check_alone) (defBody s_check_alone) = f_check_alone := by kernel_rfl
def T4 : Tbl := T3.addG "check_alone" (.fn f_check_alone 2 (some 2) [])
theorem eq_Web___init__ : semOf T4 3 ["self", "ways", "alone", "joined", "way", "place", "many"] [true, false, false] (defScope s_Web___init__) (defBody s_Web___init__) = f_Web___init__ := by kernel_rfl
def T5 : Tbl := T4.addG "Web" (.cl f_Web___init__ 4 [⟨0, ["alone", "ways"], [.arg 1, .arg 0]⟩, ⟨1, [], [.arg 0, .dft (.tup [])]⟩, ⟨1, ["alone"], [.arg 0, .arg 1]⟩])
theorem eq_Web___len__ : semOf T5 0 ["self"] [false] (defScope s_Web___len__) (defBody s_Web___len__) = f_Web___len__ := by kernel_rfl
def T6 : Tbl := T5.addM "__len__" 0 [] 1 [("Web", f_Web___len__, [])]
theorem eq_check_place : semOf T6 0 ["web", "place"] [false, false] (defScope s_check_place) (defBody s_check_place) = f_check_place := by kernel_rfl
def T7 : Tbl := T6.addG "check_place" (.fn f_check_place 1 (some 2) [])
theorem eq_Web_onward : semOf T7 1 ["self", "place", "one", "other"] [false, false] (defScope s_Web_onward) (defBody s_Web_onward) = f_Web_onward := by kernel_rfl
def T8 : Tbl := T7.addM "onward" 0 ["place"] 2 [("Web", f_Web_onward, [.arg 0])]
def T9 : Tbl := T8.addM "onward" 1 [] 2 [("Web", f_Web_onward, [.arg 0])]
theorem eq_Web___str__ : semOf T9 2 ["self", "rows", "place"] [false] (defScope s_Web___str__) (defBody s_Web___str__) = f_Web___str__ := by kernel_rfl
def T10 : Tbl := T9.addM "__str__" 0 [] 3 [("Web", f_Web___str__, [])]
theorem eq_Web___repr__ : semOf T10 0 ["self"] [false] (defScope s_Web___repr__) (defBody s_Web___repr__) = f_Web___repr__ := by kernel_rfl
def T11 : Tbl := T10.addM "__repr__" 0 [] 1 [("Web", f_Web___repr__, [])]
theorem eq__law_purse : semOf T11 0 ["_law_script", "_law_k", "_law_cell"] [false, false] (defScope s__law_purse) (defBody s__law_purse) = f__law_purse := by kernel_rfl
def T12 : Tbl := T11.addG "_law_purse" (.fn f__law_purse 1 (some 2) [])
theorem eq__law_take : semOf T12 0 ["_law_purse_here", "_law_many", "_law_found"] [true, false] (defScope s__law_take) (defBody s__law_take) = f__law_take := by kernel_rfl
def T13 : Tbl := T12.addG "_law_take" (.fn f__law_take 1 (some 2) [])
theorem eq__law_unlike : semOf T13 1 ["_law_purse_here", "_law_many", "_law_letters", "_law_menu", "_law_first", "_law_way", "_law_k", "_law_stem", "_law_at", "_law_begin"] [true, false] (defScope s__law_unlike) (defBody s__law_unlike) = f__law_unlike := by kernel_rfl
def T14 : Tbl := T13.addG "_law_unlike" (.fn f__law_unlike 2 (some 2) [])
theorem eq__law_net : semOf T14 2 ["_law_purse_here", "_law_most", "_law_names", "_law_thick", "_law_lanes", "_law_spot", "_law_goal", "_law_turn", "_law_bound", "_law_lane", "_law_name"] [true, false] (defScope s__law_net) (defBody s__law_net) = f__law_net := by kernel_rfl
def T15 : Tbl := T14.addG "_law_net" (.fn f__law_net 3 (some 2) [])
theorem eq__law_broad : semOf T15 2 ["_law_purse_here", "_law_names", "_law_lanes", "_law_spot", "_law_turn", "_law_lane", "_law_bound", "_law_name"] [true] (defScope s__law_broad) (defBody s__law_broad) = f__law_broad := by kernel_rfl
def T16 : Tbl := T15.addG "_law_broad" (.fn f__law_broad 3 (some 1) [])
theorem eq__law_drawn : semOf T16 3 ["_law_purse_here"] [true] (defScope s__law_drawn) (defBody s__law_drawn) = f__law_drawn := by kernel_rfl
def T17 : Tbl := T16.addG "_law_drawn" (.fn f__law_drawn 4 (some 1) [])
theorem eq__law_made : semOf T17 5 ["_law_purse_here", "_law_lanes", "_law_lone", "_law_way"] [true, false, false] (defScope s__law_made) (defBody s__law_made) = f__law_made := by kernel_rfl
def T18 : Tbl := T17.addG "_law_made" (.fn f__law_made 6 (some 3) [])
theorem eq__law_goals : semOf T18 0 ["_law_lanes", "_law_spot", "_law_lane"] [false, false] (defScope s__law_goals) (defBody s__law_goals) = f__law_goals := by kernel_rfl
def T19 : Tbl := T18.addG "_law_goals" (.fn f__law_goals 1 (some 2) [])
theorem eq__law_text : semOf T19 1 ["_law_names", "_law_lanes", "_law_rows", "_law_name"] [false, false] (defScope s__law_text) (defBody s__law_text) = f__law_text := by kernel_rfl
def T20 : Tbl := T19.addG "_law_text" (.fn f__law_text 2 (some 2) [])
theorem eq__law_values_right : semOf T20 4 ["_law_web", "_law_names", "_law_lanes", "_law_lane"] [false, false, false] (defScope s__law_values_right) (defBody s__law_values_right) = f__law_values_right := by kernel_rfl
def T21 : Tbl := T20.addG "_law_values_right" (.fn f__law_values_right 5 (some 3) [])
theorem eq_Web_has : semOf T21 1 ["self", "one", "other"] [false, false, false] (defScope s_Web_has) (defBody s_Web_has) = f_Web_has := by kernel_rfl
def T22 : Tbl := T21.addM "has" 0 ["other", "one"] 2 [("Web", f_Web_has, [.arg 1, .arg 0])]
def T23 : Tbl := T22.addM "has" 2 [] 2 [("Web", f_Web_has, [.arg 0, .arg 1])]
theorem eq__law_asked_right : semOf T23 2 ["_law_web", "_law_names", "_law_lanes", "_law_spot", "_law_told", "_law_goal"] [false, false, false] (defScope s__law_asked_right) (defBody s__law_asked_right) = f__law_asked_right := by kernel_rfl
def T24 : Tbl := T23.addG "_law_asked_right" (.fn f__law_asked_right 3 (some 3) [])
theorem eq_law : semOf T24 6 ["_law_script", "_law_first", "_law_k", "_law_purse_here", "_law_names", "_law_lanes", "_law_lone", "_law_web", "_law_turn"] [false] (defScope s_law) (defBody s_law) = f_law := by kernel_rfl
theorem all {P : Program} {w : World} {K : PySem.W.Frag} {h : Heap} {mg : Str → Option Value} {base : Heap} (X : K.In h) (G : h.Ns mainGlobals mg) (c : SaysX fa fn K) {fd : FuncData} (Fl : FunD K "law" "law" (defArgs s_law) (defBody s_law) (defScope s_law) [] [] (He.fAd K ("law", none)) fd) :
    FnOk P w K mg base (L2.CX P w) 7 (He.fAd K ("law", none)) fd ["_law_script"] (spF K ⟨mg, P, w⟩ f_law) := by
  have T0ok : TblOk P w K mg base T0 := tbl0_ok X G c
  obtain ⟨fd0, F0⟩ := c.def_ 0 (d := d_is_name) rfl
  have O0 := def_ok (w := w) T0ok F0 sc_is_name (modes := [false]) rfl (by decide) 0 eq_is_name
  have T1ok : TblOk P w K mg base T1 := T0ok.addG (gb_fn X G F0 (c.at 1 rfl) O0 (fun _ _ => FunD.bindsN F0 fun _ _ _ _ _ _ us hl => match us, hl with | [_], _ => rfl) ba0)
  obtain ⟨fd1, F1⟩ := c.def_ 1 (d := d_is_way) rfl
  have O1 := def_ok (w := w) T1ok F1 sc_is_way (modes := [false]) rfl (by decide) 1 eq_is_way
  have T2ok : TblOk P w K mg base T2 := T1ok.addG (gb_fn X G F1 (c.at 2 rfl) O1 (fun _ _ => FunD.bindsN F1 fun _ _ _ _ _ _ us hl => match us, hl with | [_], _ => rfl) ba0)
  obtain ⟨fd2, F2⟩ := c.def_ 2 (d := d_check_ways) rfl
  have O2 := def_ok (w := w) T2ok F2 sc_check_ways (modes := [false]) rfl (by decide) 2 eq_check_ways
  have T3ok : TblOk P w K mg base T3 := T2ok.addG (gb_fn X G F2 (c.at 3 rfl) O2 (fun _ _ => FunD.bindsN F2 fun _ _ _ _ _ _ us hl => match us, hl with | [_], _ => rfl) ba0)
  obtain ⟨fd3, F3⟩ := c.def_ 3 (d := d_check_alone) rfl
  have O3 := def_ok (w := w) T3ok F3 sc_check_alone (modes := [false, false]) rfl (by decide) 1 eq_check_alone
  have T4ok : TblOk P w K mg base T4 := T3ok.addG (gb_fn X G F3 (c.at 4 rfl) O3 (fun _ _ => FunD.bindsN F3 fun _ _ _ _ _ _ us hl => match us, hl with | [_, _], _ => rfl) ba0)
  obtain ⟨fd4, F4⟩ := c.def_ 4 (d := d_Web___init__) rfl
  have O4 := def_ok (w := w) T4ok F4 sc_Web___init__ (modes := [true, false, false]) rfl (by decide) 3 eq_Web___init__
  have T5ok : TblOk P w K mg base T5 := T4ok.addG (gb_cl X G (c.at 5 rfl) O4 ⟨_, md_Web___init__⟩ (ba1 (bind0 (b := true) (n := 0) (ks := ["alone", "ways"]) (pms := [.arg 1, .arg 0]) F4 rfl (noDft_ok rfl) fun _ _ _ _ _ _ _ us ws h1 h2 => match us, ws, h1, h2 with | [], [_, _], _, _ => rfl) (ba1 (bindK (b := true) (n := 1) (ks := []) (pms := [.arg 0, .dft (.tup [])]) F4 [("alone", V.ref (kwAt ("Web", some "__init__") "alone" K))] (dfts [.arg 0, .dft (.tup [])]) (by simp [He.DefD.kws, d_Web___init__]) (by simp [He.DefD.kws, d_Web___init__, He.Dv.v]) rfl (dfts_are _) rfl (repAll_ok ⟨fun F => tup0_ok (a := kwAt ("Web", some "__init__") "alone") (c.at 26 rfl) F, True.intro⟩) fun _ _ _ _ _ _ _ us mv ws h1 h2 h3 => match us, mv, ws, h1, h2, h3 with | [_], [_], [], _, _, _ => ⟨_, _, _, _, _, _, rfl, rfl, rfl⟩) (ba1 (bind0 (b := true) (n := 1) (ks := ["alone"]) (pms := [.arg 0, .arg 1]) F4 rfl (noDft_ok rfl) fun _ _ _ _ _ _ _ us ws h1 h2 => match us, ws, h1, h2 with | [_], [_], _, _ => rfl) ba0))))
  obtain ⟨fd5, F5⟩ := c.def_ 5 (d := d_Web___len__) rfl
  have O5 := def_ok (w := w) T5ok F5 sc_Web___len__ (modes := [false]) rfl (by decide) 0 eq_Web___len__
  have T6ok : TblOk P w K mg base T6 := T5ok.addM (mt_cons (mt_of X G (c.at 6 rfl) (c.at 7 rfl) (c.at 8 rfl) (by decide) O5 (bind0 (b := true) (n := 0) (ks := []) (pms := []) F5 rfl (noDft_ok rfl) fun _ _ _ _ _ _ _ us ws h1 h2 => match us, ws, h1, h2 with | [], [], _, _ => rfl)) (fun _ _ h => by cases h))
  obtain ⟨fd6, F6⟩ := c.def_ 6 (d := d_check_place) rfl
  have O6 := def_ok (w := w) T6ok F6 sc_check_place (modes := [false, false]) rfl (by decide) 0 eq_check_place
  have T7ok : TblOk P w K mg base T7 := T6ok.addG (gb_fn X G F6 (c.at 9 rfl) O6 (fun _ _ => FunD.bindsN F6 fun _ _ _ _ _ _ us hl => match us, hl with | [_, _], _ => rfl) ba0)
  obtain ⟨fd7, F7⟩ := c.def_ 7 (d := d_Web_onward) rfl
  have O7 := def_ok (w := w) T7ok F7 sc_Web_onward (modes := [false, false]) rfl (by decide) 1 eq_Web_onward
  have T8ok : TblOk P w K mg base T8 := T7ok.addM (mt_cons (mt_of X G (c.at 6 rfl) (c.at 7 rfl) (c.at 10 rfl) (by decide) O7 (bind0 (b := true) (n := 0) (ks := ["place"]) (pms := [.arg 0]) F7 rfl (noDft_ok rfl) fun _ _ _ _ _ _ _ us ws h1 h2 => match us, ws, h1, h2 with | [], [_], _, _ => rfl)) (fun _ _ h => by cases h))
  have T9ok : TblOk P w K mg base T9 := T8ok.addM (mt_cons (mt_of X G (c.at 6 rfl) (c.at 7 rfl) (c.at 10 rfl) (by decide) O7 (bind0 (b := true) (n := 1) (ks := []) (pms := [.arg 0]) F7 rfl (noDft_ok rfl) fun _ _ _ _ _ _ _ us ws h1 h2 => match us, ws, h1, h2 with | [_], [], _, _ => rfl)) (fun _ _ h => by cases h))
  obtain ⟨fd8, F8⟩ := c.def_ 8 (d := d_Web___str__) rfl
  have O8 := def_ok (w := w) T9ok F8 sc_Web___str__ (modes := [false]) rfl (by decide) 2 eq_Web___str__
  have T10ok : TblOk P w K mg base T10 := T9ok.addM (mt_cons (mt_of X G (c.at 6 rfl) (c.at 7 rfl) (c.at 11 rfl) (by decide) O8 (bind0 (b := true) (n := 0) (ks := []) (pms := []) F8 rfl (noDft_ok rfl) fun _ _ _ _ _ _ _ us ws h1 h2 => match us, ws, h1, h2 with | [], [], _, _ => rfl)) (fun _ _ h => by cases h))
  obtain ⟨fd9, F9⟩ := c.def_ 9 (d := d_Web___repr__) rfl
  have O9 := def_ok (w := w) T10ok F9 sc_Web___repr__ (modes := [false]) rfl (by decide) 0 eq_Web___repr__
  have T11ok : TblOk P w K mg base T11 := T10ok.addM (mt_cons (mt_of X G (c.at 6 rfl) (c.at 7 rfl) (c.at 12 rfl) (by decide) O9 (bind0 (b := true) (n := 0) (ks := []) (pms := []) F9 rfl (noDft_ok rfl) fun _ _ _ _ _ _ _ us ws h1 h2 => match us, ws, h1, h2 with | [], [], _, _ => rfl)) (fun _ _ h => by cases h))
  obtain ⟨fd10, F10⟩ := c.def_ 10 (d := d__law_purse) rfl
  have O10 := def_ok (w := w) T11ok F10 sc__law_purse (modes := [false, false]) rfl (by decide) 0 eq__law_purse
  have T12ok : TblOk P w K mg base T12 := T11ok.addG (gb_fn X G F10 (c.at 13 rfl) O10 (fun _ _ => FunD.bindsN F10 fun _ _ _ _ _ _ us hl => match us, hl with | [_, _], _ => rfl) ba0)
  obtain ⟨fd11, F11⟩ := c.def_ 11 (d := d__law_take) rfl
  have O11 := def_ok (w := w) T12ok F11 sc__law_take (modes := [true, false]) rfl (by decide) 0 eq__law_take
  have T13ok : TblOk P w K mg base T13 := T12ok.addG (gb_fn X G F11 (c.at 14 rfl) O11 (fun _ _ => FunD.bindsN F11 fun _ _ _ _ _ _ us hl => match us, hl with | [_, _], _ => rfl) ba0)
  obtain ⟨fd12, F12⟩ := c.def_ 12 (d := d__law_unlike) rfl
  have O12 := def_ok (w := w) T13ok F12 sc__law_unlike (modes := [true, false]) rfl (by decide) 1 eq__law_unlike
  have T14ok : TblOk P w K mg base T14 := T13ok.addG (gb_fn X G F12 (c.at 15 rfl) O12 (fun _ _ => FunD.bindsN F12 fun _ _ _ _ _ _ us hl => match us, hl with | [_, _], _ => rfl) ba0)
  obtain ⟨fd13, F13⟩ := c.def_ 13 (d := d__law_net) rfl
  have O13 := def_ok (w := w) T14ok F13 sc__law_net (modes := [true, false]) rfl (by decide) 2 eq__law_net
  have T15ok : TblOk P w K mg base T15 := T14ok.addG (gb_fn X G F13 (c.at 16 rfl) O13 (fun _ _ => FunD.bindsN F13 fun _ _ _ _ _ _ us hl => match us, hl with | [_, _], _ => rfl) ba0)
  obtain ⟨fd14, F14⟩ := c.def_ 14 (d := d__law_broad) rfl
  have O14 := def_ok (w := w) T15ok F14 sc__law_broad (modes := [true]) rfl (by decide) 2 eq__law_broad
  have T16ok : TblOk P w K mg base T16 := T15ok.addG (gb_fn X G F14 (c.at 17 rfl) O14 (fun _ _ => FunD.bindsN F14 fun _ _ _ _ _ _ us hl => match us, hl with | [_], _ => rfl) ba0)
  obtain ⟨fd15, F15⟩ := c.def_ 15 (d := d__law_drawn) rfl
  have O15 := def_ok (w := w) T16ok F15 sc__law_drawn (modes := [true]) rfl (by decide) 3 eq__law_drawn
  have T17ok : TblOk P w K mg base T17 := T16ok.addG (gb_fn X G F15 (c.at 18 rfl) O15 (fun _ _ => FunD.bindsN F15 fun _ _ _ _ _ _ us hl => match us, hl with | [_], _ => rfl) ba0)
  obtain ⟨fd16, F16⟩ := c.def_ 16 (d := d__law_made) rfl
  have O16 := def_ok (w := w) T17ok F16 sc__law_made (modes := [true, false, false]) rfl (by decide) 5 eq__law_made
  have T18ok : TblOk P w K mg base T18 := T17ok.addG (gb_fn X G F16 (c.at 19 rfl) O16 (fun _ _ => FunD.bindsN F16 fun _ _ _ _ _ _ us hl => match us, hl with | [_, _, _], _ => rfl) ba0)
  obtain ⟨fd17, F17⟩ := c.def_ 17 (d := d__law_goals) rfl
  have O17 := def_ok (w := w) T18ok F17 sc__law_goals (modes := [false, false]) rfl (by decide) 0 eq__law_goals
  have T19ok : TblOk P w K mg base T19 := T18ok.addG (gb_fn X G F17 (c.at 20 rfl) O17 (fun _ _ => FunD.bindsN F17 fun _ _ _ _ _ _ us hl => match us, hl with | [_, _], _ => rfl) ba0)
  obtain ⟨fd18, F18⟩ := c.def_ 18 (d := d__law_text) rfl
  have O18 := def_ok (w := w) T19ok F18 sc__law_text (modes := [false, false]) rfl (by decide) 1 eq__law_text
  have T20ok : TblOk P w K mg base T20 := T19ok.addG (gb_fn X G F18 (c.at 21 rfl) O18 (fun _ _ => FunD.bindsN F18 fun _ _ _ _ _ _ us hl => match us, hl with | [_, _], _ => rfl) ba0)
  obtain ⟨fd19, F19⟩ := c.def_ 19 (d := d__law_values_right) rfl
  have O19 := def_ok (w := w) T20ok F19 sc__law_values_right (modes := [false, false, false]) rfl (by decide) 4 eq__law_values_right
  have T21ok : TblOk P w K mg base T21 := T20ok.addG (gb_fn X G F19 (c.at 22 rfl) O19 (fun _ _ => FunD.bindsN F19 fun _ _ _ _ _ _ us hl => match us, hl with | [_, _, _], _ => rfl) ba0)
  obtain ⟨fd20, F20⟩ := c.def_ 20 (d := d_Web_has) rfl
  have O20 := def_ok (w := w) T21ok F20 sc_Web_has (modes := [false, false, false]) rfl (by decide) 1 eq_Web_has
  have T22ok : TblOk P w K mg base T22 := T21ok.addM (mt_cons (mt_of X G (c.at 6 rfl) (c.at 7 rfl) (c.at 23 rfl) (by decide) O20 (bind0 (b := true) (n := 0) (ks := ["other", "one"]) (pms := [.arg 1, .arg 0]) F20 rfl (noDft_ok rfl) fun _ _ _ _ _ _ _ us ws h1 h2 => match us, ws, h1, h2 with | [], [_, _], _, _ => rfl)) (fun _ _ h => by cases h))
  have T23ok : TblOk P w K mg base T23 := T22ok.addM (mt_cons (mt_of X G (c.at 6 rfl) (c.at 7 rfl) (c.at 23 rfl) (by decide) O20 (bind0 (b := true) (n := 2) (ks := []) (pms := [.arg 0, .arg 1]) F20 rfl (noDft_ok rfl) fun _ _ _ _ _ _ _ us ws h1 h2 => match us, ws, h1, h2 with | [_, _], [], _, _ => rfl)) (fun _ _ h => by cases h))
  obtain ⟨fd21, F21⟩ := c.def_ 21 (d := d__law_asked_right) rfl
  have O21 := def_ok (w := w) T23ok F21 sc__law_asked_right (modes := [false, false, false]) rfl (by decide) 2 eq__law_asked_right
  have T24ok : TblOk P w K mg base T24 := T23ok.addG (gb_fn X G F21 (c.at 24 rfl) O21 (fun _ _ => FunD.bindsN F21 fun _ _ _ _ _ _ us hl => match us, hl with | [_, _, _], _ => rfl) ba0)
  exact def_ok T24ok Fl sc_law rfl (by decide) 6 eq_law
abbrev Rr : PySem.W.OpenRow := PySem.W.OpenLaw.row PySem.Challenge.rw_ringfall_k02_webs_with_their_ways
abbrev hk : PySem.W.Hook := hookX 7 fa fn
def ob (s : PySem.W.SharedT) : He.AlD := obsXG 7 fa fn (HandSHeadRun.getT s)
theorem ob_eq (s : PySem.W.SharedT) : ob s = hk.obs s.abs := obsXG_eq (HandSHeadRun.getT_eq s)
def loose : List PySem.Str := (["RingError", "LostError", "FullError", "NoWays", "NoAlone", "NoPlace", "TooMany", "is_name", "is_way", "check_ways", "check_alone", "Web", "check_place", "_law_purse", "_law_take", "_law_unlike", "_law_net", "_law_broad", "_law_drawn", "_law_made", "_law_goals", "_law_text", "_law_values_right", "_law_asked_right", "LETTERS", "MOST_LETTERS", "MOST_WAYS", "MOST_IN_WEB"] : List PySem.Str)
theorem run (w : World) : HandSHeadRun.RunEq Rr (PySem.W.view Rr.prog [31]) hk ob 4000 loose w := by
  intro os
  kernel_rfl
/-- what is left: the law over its mirror -/
def Pure : Prop := ∀ ns : List Int, ns.length ≤ 63 → f_law.run [.lst (ns.map D.int)] = .ret false (.bl true) []
end K02
open PySem PySem.W PySem.Calls PyProof.Rows
theorem K02.holds (hp : K02.Pure) : PySem.Challenge.rw_ringfall_k02_webs_with_their_ways.Holds := by
  w_on; o_law
  refine HandSHeadRun.head_any (r := OpenLaw.row PySem.Challenge.rw_ringfall_k02_webs_with_their_ways) (q := view (OpenLaw.row PySem.Challenge.rw_ringfall_k02_webs_with_their_ways).prog [31]) (H := K02.hk) (ob := K02.ob) (M := 4000) (loose := K02.loose) (d := HandSHeadRun.topDef (OpenLaw.row PySem.Challenge.rw_ringfall_k02_webs_with_their_ways).prog 31) (kwd := []) K02.ob_eq
    (by kernel_rfl) (fun s => by kernel_rfl) K02.run (by kernel_rfl) (by kernel_rfl) (by kernel_rfl) (by rfl) (by first | assumption | decide +kernel) (by decide +kernel) ⟨rfl, rfl, rfl, rfl, rfl, by decide +kernel⟩ ?hw ?hc
  case hw => w_witness2
  case hc =>
    refine RF.walkW (l := PySem.Challenge.rw_ringfall_k02_webs_with_their_ways) (n := 63) (k := 7) (x := "_law_script") rfl (by decide) (by kernel_rfl) ⟨rfl, by decide, by decide⟩ ?F
    intro w mg fa h Y G hmg0
    obtain ⟨K, KX, c⟩ := Y
    have hmg : mg ("law" : PySem.Str) = some (.ref fa) := by
      have e : (HandSHeadRun.topDef (OpenLaw.row PySem.Challenge.rw_ringfall_k02_webs_with_their_ways).prog 31).name = ("law" : PySem.Str) := by kernel_rfl
      rw [← e]
      exact hmg0
    obtain ⟨fd, F⟩ := c.def_ 22 (d := K02.d_law) rfl
    have e := hmg.symm.trans (He.glo_ok KX G (c.at 25 rfl))
    cases e
    have b := L2.FunD.bindsA (ps := ["_law_script"]) F fun _ _ _ _ _ _ us hl => match us, hl with | [_], _ => rfl
    exact ⟨K, fd, RF.spF K ⟨mg, (PySem.Challenge.rw_ringfall_k02_webs_with_their_ways).prog, w⟩ K02.f_law, KX, fun s v => b s [v] rfl, RF.law_sp (c.at 0 rfl) K02.md_law (by decide) hp, fun base _ _ => K02.all KX G c F⟩
end

open PySem PySem.W PyProof.Rows
set_option maxRecDepth 100000 in
set_option maxHeartbeats 0 in
theorem PySem.Challenge.cw_ringfall_k02_webs_with_their_ways_holds : PySem.Challenge.rw_ringfall_k02_webs_with_their_ways.Holds := by
  exact K02.holds (fun ns h => K02.law_run h)
