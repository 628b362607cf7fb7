import PyProof.Rows.All
import Wide.All
import OpenK.AllK
import Wide.FinOn
import PyProof.EqAt
import PyProof.EqKinds
import PyProof.TupleCall
import HandS.ForMost
import HandS.ForExc
import HandS.Flow
import HandS.TupAny
import HandS.Wide
import HandS.Deep
import HandS.Zip
import HandS.RevRange
import HandS.Dict
import HandS.HeadHook1
import KE.KDictKeyed
import HandS.Style
import HandS.Defaults
import HandS.IsInst
import HandS.Conv
import HandS.TupMul
import PyProof.Rows.ListMulArg
import KE.SortData
import KE.KTupSum
import PyProof.WalkInts
import KE.GoesMore
import KE.GoesEnum
import HandS.Small
import HandS.SetFor
import HandS.Strs
import HandS.DictTup
import HandS.ListItems
import HandS.Ends
import HandS.HeadEnd
import HandS.HeadHook2
import HandS.Exc
import HandS.WordsExc
import PyProof.ExcBaseAll.ValueError
import KE.KDictSum
import KE.KDictItemsList
import HandS.Head0
import HandS.Head1
import HandS.Head2
import PySem.Challenge.RW_serieskept_k94_whole_views_and_their_col
set_option Elab.async false
set_option linter.all false
set_option maxRecDepth 100000
/-! Pi0: a small shallow interpreter: plain data, live cells, combinators. -/
namespace Pi
open PySem

abbrev D := PyData
/-- a value at run time: plain data, a live cell of the store -/
inductive R where
  | d (x : D)
  | ref (i : Nat)
/-- a live cell -/
inductive Cell where
  | lst (xs : List D)
  | dic (kvs : List (D × R))
  /-- a dict whose keys are tuples -/
  | dih (kvs : List (D × R))
  /-- a dict of the first, second kind while a loop walks it -/
  | lck (kvs : List (D × R))
  | lch (kvs : List (D × R))
  | obj (c : String) (fs : List (Str × R))
  | gone
abbrev Store := List Cell
abbrev Env := List (Option R)
structure Xn where
  cls : String
  fs : List (Str × D)
inductive Res (α : Type) where
  | ok (a : α) (S : Store)
  | ex (x : Xn) (S : Store)
  | no
def Res.bind {α β : Type} (r : Res α) (f : α → Store → Res β) : Res β :=
  match r with
  | .ok a S => f a S
  | .ex x S => .ex x S
  | .no => .no
@[simp] theorem Res.bind_ok {α β : Type} (a : α) (S : Store) (f : α → Store → Res β) : (Res.ok a S).bind f = f a S := Eq.trans rfl rfl
@[simp] theorem Res.bind_ex {α β : Type} (x : Xn) (S : Store) (f : α → Store → Res β) : (Res.ex x S : Res α).bind f = .ex x S := Eq.trans rfl rfl
@[simp] theorem Res.bind_no {α β : Type} (f : α → Store → Res β) : (Res.no : Res α).bind f = .no := Eq.trans rfl rfl
def Res.opt {α : Type} (o : Option α) (S : Store) : Res α := match o with
  | some a => .ok a S
  | none => .no
abbrev M (α : Type) := Env → Store → Res α
abbrev EM := M R
abbrev TM := M Bool
abbrev AM := M (List R)
/-- an iterable's items -/
abbrev IM := M (List D)
/-- a target's store -/
abbrev GM := R → Env → Store → Option (Env × Store)
inductive Out where
  | nx (ρ : Env) (S : Store)
  | rt (r : R) (S : Store)
  | ex (x : Xn) (ρ : Env) (S : Store)
  | no
abbrev SM := Env → Store → Out

/-- what is read of a value now -/
def rd (S : Store) : R → Option D
  | .d x => some x
  | .ref i => match S[i]? with
    | some (.lst xs) => some (.list xs)
    | _ => none
def rdR : R → Option D
  | .d x => some x
  | .ref _ => none

/-! ### expressions -/
def mVar (i : Nat) : EM := fun ρ S => match ρ[i]? with
  | some (some r) => .ok r S
  | _ => .no
def mD (x : D) : EM := fun _ S => .ok (.d x) S
/-- by what is read of the values at the end -/
def mOp1 (g : D → Option D) (a : EM) : EM := fun ρ S => (a ρ S).bind fun x S1 => match rd S1 x with
  | some x' => match g x' with
    | some z => .ok (.d z) S1
    | none => .no
  | none => .no
def mOp2 (g : D → D → Option D) (a b : EM) : EM := fun ρ S => (a ρ S).bind fun x S1 => (b ρ S1).bind fun y S2 => match rd S2 x, rd S2 y with
  | some x', some y' => match g x' y' with
    | some z => .ok (.d z) S2
    | none => .no
  | _, _ => .no
def mChain (g g' : D → D → Option D) (a b c : EM) : EM := fun ρ S => (a ρ S).bind fun x S1 => (b ρ S1).bind fun y S2 => match rd S2 x, rd S2 y with
  | some x', some y' => match g x' y' with
    | some (.bool true) => (c ρ S2).bind fun z S3 => match rd S3 y, rd S3 z with
      | some y'', some z' => match g' y'' z' with
        | some k => .ok (.d k) S3
        | none => .no
      | _, _ => .no
    | some (.bool false) => .ok (.d (.bool false)) S2
    | _ => .no
  | _, _ => .no
/-- truth -/
def truD : D → Option Bool
  | .none => some false
  | .bool b => some b
  | .int i => some (i != 0)
  | .str x => if x.length ≤ sizeLine then some ((x.length : Int) != 0) else none
  | .list xs => some (!xs.isEmpty)
  | .tuple xs => some (!xs.isEmpty)
  | .dict _ => none
def mTruth (a : EM) : TM := fun ρ S => (a ρ S).bind fun x S1 => match rd S1 x with
  | some x' => Res.opt (truD x') S1
  | none => .no
def mNotT (a : TM) : TM := fun ρ S => (a ρ S).bind fun b S1 => .ok (!b) S1
def mAndT (a b : TM) : TM := fun ρ S => (a ρ S).bind fun c S1 => match c with
  | true => b ρ S1
  | false => .ok false S1
def mOrT (a b : TM) : TM := fun ρ S => (a ρ S).bind fun c S1 => match c with
  | true => .ok true S1
  | false => b ρ S1
def mIfE (c : TM) (a b : EM) : EM := fun ρ S => (c ρ S).bind fun k S1 => match k with
  | true => a ρ S1
  | false => b ρ S1
/-- and, or as values -/
def mAndV (a b : EM) : EM := fun ρ S => (a ρ S).bind fun x S1 => match rd S1 x with
  | some x' => match truD x' with
    | some true => b ρ S1
    | some false => .ok x S1
    | none => .no
  | none => .no
def mOrV (a b : EM) : EM := fun ρ S => (a ρ S).bind fun x S1 => match rd S1 x with
  | some x' => match truD x' with
    | some true => .ok x S1
    | some false => b ρ S1
    | none => .no
  | none => .no
def mNotV (a : EM) : EM := fun ρ S => (a ρ S).bind fun x S1 => match rd S1 x with
  | some x' => match truD x' with
    | some k => .ok (.d (.bool (!k))) S1
    | none => .no
  | none => .no
/-- arguments -/
def mNil : AM := fun _ S => .ok [] S
def mCons (a : EM) (r : AM) : AM := fun ρ S => (a ρ S).bind fun x S1 => (r ρ S1).bind fun xs S2 => .ok (x :: xs) S2
def allD : List R → Option (List D)
  | [] => some []
  | .d x :: r => match allD r with
    | some xs => some (x :: xs)
    | none => none
  | .ref _ :: _ => none
def rdAll (S : Store) : List R → Option (List D)
  | [] => some []
  | x :: r => match rd S x, rdAll S r with
    | some x', some xs => some (x' :: xs)
    | _, _ => none
def mTup (a : AM) : EM := fun ρ S => (a ρ S).bind fun xs S1 => match allD xs with
  | some ds => if ds.length ≤ sizeLine then .ok (.d (.tuple ds)) S1 else .no
  | none => .no
/-- a call of a builtin with values -/
def mCB (g : List D → Option D) (a : AM) : EM := fun ρ S => (a ρ S).bind fun xs S1 => match rdAll S1 xs with
  | some ds => match g ds with
    | some z => .ok (.d z) S1
    | none => .no
  | none => .no

/-! ### new lists -/
def mDisp (a : AM) : IM := fun ρ S => (a ρ S).bind fun xs S1 => match allD xs with
  | some ds => if ds.length ≤ sizeLine then .ok ds S1 else .no
  | none => .no
/-- a new list by a builtin's answer -/
def mCBL (g : List D → Option (List D)) (a : AM) : IM := fun ρ S => (a ρ S).bind fun xs S1 => match rdAll S1 xs with
  | some ds => Res.opt (g ds) S1
  | none => .no
def mOp2L (g : D → D → Option (List D)) (a b : EM) : IM := fun ρ S => (a ρ S).bind fun x S1 => (b ρ S1).bind fun y S2 => match rd S2 x, rd S2 y with
  | some x', some y' => Res.opt (g x' y') S2
  | _, _ => .no
/-- a new list as plain data; as a live cell -/
def mFrz (l : IM) : EM := fun ρ S => (l ρ S).bind fun ds S1 => .ok (.d (.list ds)) S1
def mNew (l : IM) : EM := fun ρ S => (l ρ S).bind fun ds S1 => .ok (.ref S1.length) (S1 ++ [.lst ds])

/-! ### comprehensions -/
def wipeR (ρ : Env) : List Nat → Env
  | [] => ρ
  | v :: vs => (wipeR ρ vs).set v none
def lcLoop (ρ : Env) (tg : GM) (cond : TM) (elt : EM) : List D → Store → Res (List D)
  | [], S => .ok [] S
  | d :: ds, S => match tg (.d d) ρ S with
    | some (ρ1, S1) => (cond ρ1 S1).bind fun k S2 => match k with
      | true => (elt ρ1 S2).bind fun r S3 => match rdR r with
        | some y => (lcLoop ρ tg cond elt ds S3).bind fun ys S4 => .ok (y :: ys) S4
        | none => .no
      | false => lcLoop ρ tg cond elt ds S2
    | none => .no
def noEx {α : Type} : Res α → Res α
  | .ok a S => .ok a S
  | _ => .no
def mLc (it : IM) (own : List Nat) (tg : GM) (cond : TM) (elt : EM) : IM := fun ρ S => (it ρ S).bind fun ds S1 => match noEx (lcLoop (wipeR ρ own) tg cond elt ds S1) with
  | .ok ys S2 => if ys.length ≤ sizeLine then .ok ys S2 else .no
  | _ => .no
def mYes : TM := fun _ S => .ok true S

/-! ### what is walked -/
def itD : D → Option (List D)
  | .list xs => some xs
  | .tuple xs => some xs
  | _ => none
/-- a tuple or a list that stays -/
def mItS (a : EM) : IM := fun ρ S => (a ρ S).bind fun x S1 => match rdR x with
  | some x' => Res.opt (itD x') S1
  | none => .no
def okR (i : Int) : Bool := decide (-(2 ^ 62) ≤ i) && decide (i < 2 ^ 62)
/-- lo, lo + 1, .. -/
def rangeD (lo : Int) : Nat → List D
  | 0 => []
  | n + 1 => .int lo :: rangeD (lo + 1) n
def range1 : List D → Option (List D)
  | [.int j] => if okR j then some (rangeD 0 j.toNat) else none
  | _ => none
def range2 : List D → Option (List D)
  | [.int i, .int j] => if okR i && okR j then some (rangeD i (j - i).toNat) else none
  | _ => none
def mItA (g : List D → Option (List D)) (a : AM) : IM := fun ρ S => (a ρ S).bind fun xs S1 => match allD xs with
  | some ds => Res.opt (g ds) S1
  | none => .no
def zipD : List D → List D → List D
  | x :: xs, y :: ys => .tuple [x, y] :: zipD xs ys
  | _, _ => []
def zip2 : List D → Option (List D)
  | [.list xs, .list ys] => some (zipD xs ys)
  | [.tuple xs, .tuple ys] => some (zipD xs ys)
  | _ => none
def enumD (i : Nat) : List D → List D
  | [] => []
  | x :: xs => .tuple [.int i, x] :: enumD (i + 1) xs
def enum1 : List D → Option (List D)
  | [a] => match itD a with
    | some xs => some (enumD 0 xs)
    | none => none
  | _ => none

/-! ### targets -/
def gN (i : Nat) : GM := fun r ρ S => some (ρ.set i (some r), S)
def gAll : List GM → List D → Env → Store → Option (Env × Store)
  | [], [], ρ, S => some (ρ, S)
  | g :: gs, d :: ds, ρ, S => match g (.d d) ρ S with
    | some (ρ1, S1) => gAll gs ds ρ1 S1
    | none => none
  | _, _, _, _ => none
def gT (gs : List GM) : GM := fun r ρ S => match r with
  | .d (.tuple ds) => gAll gs ds ρ S
  | .d (.list ds) => gAll gs ds ρ S
  | _ => none

/-! ### statements -/
def mSeq (a b : SM) : SM := fun ρ S => match a ρ S with
  | .nx ρ1 S1 => b ρ1 S1
  | o => o
def mSkip : SM := fun ρ S => .nx ρ S
def Res.out {α : Type} (r : Res α) (ρ : Env) (f : α → Store → Out) : Out := match r with
  | .ok a S => f a S
  | .ex x S => .ex x ρ S
  | .no => .no
@[simp] theorem Res.out_ok {α : Type} (a : α) (S : Store) (ρ : Env) (f : α → Store → Out) : (Res.ok a S).out ρ f = f a S := Eq.trans rfl rfl
@[simp] theorem Res.out_ex {α : Type} (x : Xn) (S : Store) (ρ : Env) (f : α → Store → Out) : (Res.ex x S : Res α).out ρ f = .ex x ρ S := Eq.trans rfl rfl
@[simp] theorem Res.out_no {α : Type} (ρ : Env) (f : α → Store → Out) : (Res.no : Res α).out ρ f = .no := Eq.trans rfl rfl
def mExpr (a : EM) : SM := fun ρ S => (a ρ S).out ρ fun _ S1 => .nx ρ S1
def mRet (a : EM) : SM := fun ρ S => (a ρ S).out ρ fun r S1 => .rt r S1
def mRetN : SM := fun _ S => .rt (.d .none) S
def mIf (c : TM) (a b : SM) : SM := fun ρ S => (c ρ S).out ρ fun k S1 => match k with
  | true => a ρ S1
  | false => b ρ S1
def mAsg (g : GM) (a : EM) : SM := fun ρ S => (a ρ S).out ρ fun r S1 => match g r ρ S1 with
  | some (ρ2, S2) => .nx ρ2 S2
  | none => .no
/-- a, b = x, y: local names -/
def mPar (is : List Nat) (a : AM) : SM := fun ρ S => (a ρ S).out ρ fun rs S1 => if rs.length = is.length then .nx ((is.zip rs).foldl (fun ρ p => ρ.set p.1 (some p.2)) ρ) S1 else .no
def forLoop (g : GM) (b : SM) : List D → Env → Store → Out
  | [], ρ, S => .nx ρ S
  | d :: ds, ρ, S => match g (.d d) ρ S with
    | some (ρ1, S1) => match b ρ1 S1 with
      | .nx ρ2 S2 => forLoop g b ds ρ2 S2
      | o => o
    | none => .no
def mFor (it : IM) (g : GM) (b : SM) : SM := fun ρ S => (it ρ S).out ρ fun ds S1 => forLoop g b ds ρ S1
def whileLoop (c : TM) (b : SM) : Nat → Env → Store → Out
  | 0, _, _ => .no
  | n + 1, ρ, S => (c ρ S).out ρ fun k S1 => match k with
    | true => match b ρ S1 with
      | .nx ρ2 S2 => whileLoop c b n ρ2 S2
      | o => o
    | false => .nx ρ S1
def mWhile (n : Nat) (c : TM) (b : SM) : SM := whileLoop c b n

/-! ### defs -/
abbrev Fn := List R → Store → Res R
def startR (n : Nat) (rs : List R) : Env := rs.map some ++ List.replicate (n - rs.length) none
/-- a def by its body: n names -/
def fnR (n : Nat) (b : SM) : Fn := fun rs S => match b (startR n rs) S with
  | .nx _ S' => .ok (.d .none) S'
  | .rt r S' => .ok r S'
  | .ex x _ S' => .ex x S'
  | .no => .no
/-- a call, by plain data alone: the callee's cells are its own -/
def runP (F : Fn) (ds : List D) (S : Store) : Res R := match F (ds.map .d) [] with
  | .ok (.d z) _ => .ok (.d z) S
  | .ex x _ => .ex x S
  | _ => .no
def mCallP (F : Fn) (a : AM) : EM := fun ρ S => (a ρ S).bind fun xs S1 => match allD xs with
  | some ds => runP F ds S1
  | none => .no
/-- a call with all cells -/
def mCallS (F : Fn) (a : AM) : EM := fun ρ S => (a ρ S).bind fun xs S1 => F xs S1
/-- a call whose first argument alone is a cell (a plain list); what comes back is plain data -/
def run1 (F : Fn) (i : Nat) (ds : List D) (S : Store) : Res R := match S[i]? with
  | some (.lst xs) => match F (.ref 0 :: ds.map .d) [.lst xs] with
    | .ok (.d z) (.lst ys :: _) => .ok (.d z) (S.set i (.lst ys))
    | _ => .no
  | _ => .no
def mCall1 (F : Fn) (a : AM) : EM := fun ρ S => (a ρ S).bind fun xs S1 => match xs with
  | .ref i :: r => match allD r with
    | some ds => run1 F i ds S1
    | none => .no
  | _ => .no
def mRaise (c : String) : SM := fun ρ S => .ex ⟨c, []⟩ ρ S
end Pi

set_option Elab.async false
set_option linter.all false
set_option maxRecDepth 100000
/-! Pi1: how data, cells, environments lie in the abstract heap; the judgements. -/
namespace Pi
open PySem PySem.Spec PyProof.Rows L2

/-- what stays for ever -/
def stable : HO → Bool
  | .tup _ => true
  | .frz _ _ => true
  | _ => false
/-- a list that is never written any more -/
def FzL (K : PySem.W.Frag) (H : Hp) (a : Addr) (xs : List V) : Prop :=
  (∃ o, H a = some (.frz o (.lst xs))) ∨
    ∃ (o : Obj) (its : Array Value) (n : Nat), K.lookup a = some o ∧ o.cls = .type "list" ∧ o.dict = none ∧ o.data = .seq its n ∧ its.size ≤ sizeLine ∧ Vals xs its.toList
theorem FzL.sq {K : PySem.W.Frag} {H : Hp} {a : Addr} {xs : List V} (h : FzL K H a xs) : SqL K H a xs := by
  rcases h with ⟨o, h⟩ | h
  · exact .inl (.inr ⟨o, h⟩)
  · exact .inr h
/-- a tuple, plain: without a dict of its own -/
def FzT (H : Hp) (a : Addr) (xs : List V) : Prop := ∃ o, H a = some (.frz o (.tup xs)) ∧ o.dict = none
theorem FzT.sq {K : PySem.W.Frag} {H : Hp} {a : Addr} {xs : List V} (h : FzT H a xs) : SqT K H a xs := let ⟨o, h, _⟩ := h; .inl (.inr ⟨o, h⟩)
mutual
inductive Df (K : PySem.W.Frag) (H : Hp) : V → PyData → Prop
  | non : Df K H .non .none
  | bl (b : Bool) : Df K H (.bl b) (.bool b)
  | int (i : Int) : Df K H (.int i) (.int i)
  | str (x : Str) : Df K H (.str x) (.str x)
  | lst {a : Addr} {xs : List V} {ds : List PyData} : FzL K H a xs → DfAll K H xs ds → Df K H (.ref a) (.list ds)
  | tup {a : Addr} {xs : List V} {ds : List PyData} : FzT H a xs → DfAll K H xs ds → Df K H (.ref a) (.tuple ds)
inductive DfAll (K : PySem.W.Frag) (H : Hp) : List V → List PyData → Prop
  | nil : DfAll K H [] []
  | cons {v : V} {vs : List V} {d : PyData} {ds : List PyData} : Df K H v d → DfAll K H vs ds → DfAll K H (v :: vs) (d :: ds)
end
/-- .. or a live list, as it is now -/
inductive Dn (K : PySem.W.Frag) (H : Hp) : V → PyData → Prop
  | of {v : V} {d : PyData} : Df K H v d → Dn K H v d
  | lst {a : Addr} {xs : List V} {ds : List PyData} : H a = some (.lst xs) → DfAll K H xs ds → Dn K H (.ref a) (.list ds)

/-- H' has all that stays of H -/
def Stab (H H' : Hp) : Prop := ∀ a o, stable o = true → H a = some o → H' a = some o
theorem Stab.sqT {K : PySem.W.Frag} {H H' : Hp} {a : Addr} {xs : List V} (e : Stab H H') (h : SqT K H a xs) : SqT K H' a xs := by
  rcases h with (h | ⟨o, h⟩) | h
  · exact .inl (.inl (e _ _ rfl h))
  · exact .inl (.inr ⟨o, e _ _ rfl h⟩)
  · exact .inr h
theorem Stab.fzT {H H' : Hp} {a : Addr} {xs : List V} (e : Stab H H') (h : FzT H a xs) : FzT H' a xs := let ⟨o, h, n⟩ := h; ⟨o, e _ _ rfl h, n⟩
theorem Stab.fzL {K : PySem.W.Frag} {H H' : Hp} {a : Addr} {xs : List V} (e : Stab H H') (h : FzL K H a xs) : FzL K H' a xs := by
  rcases h with ⟨o, h⟩ | h
  · exact .inl ⟨o, e _ _ rfl h⟩
  · exact .inr h
mutual
theorem Df.mono {K : PySem.W.Frag} {H H' : Hp} (e : Stab H H') : ∀ {v : V} {d : PyData}, Df K H v d → Df K H' v d
  | _, _, .non => .non
  | _, _, .bl b => .bl b
  | _, _, .int i => .int i
  | _, _, .str x => .str x
  | _, _, .lst h t => .lst (e.fzL h) (DfAll.mono e t)
  | _, _, .tup h t => .tup (e.fzT h) (DfAll.mono e t)
theorem DfAll.mono {K : PySem.W.Frag} {H H' : Hp} (e : Stab H H') : ∀ {vs : List V} {ds : List PyData}, DfAll K H vs ds → DfAll K H' vs ds
  | _, _, .nil => .nil
  | _, _, .cons h t => .cons (Df.mono e h) (DfAll.mono e t)
end
theorem DfAll.length {K : PySem.W.Frag} {H : Hp} : ∀ {vs : List V} {ds : List PyData}, DfAll K H vs ds → vs.length = ds.length
  | _, _, .nil => rfl
  | _, _, .cons _ t => by rw [List.length_cons, List.length_cons, t.length]
theorem DfAll.append {K : PySem.W.Frag} {H : Hp} : ∀ {vs ws : List V} {ds es : List PyData}, DfAll K H vs ds → DfAll K H ws es → DfAll K H (vs ++ ws) (ds ++ es)
  | _, _, _, _, .nil, s => s
  | _, _, _, _, .cons h t, s => .cons h (DfAll.append t s)
theorem DfAll.take {K : PySem.W.Frag} {H : Hp} : ∀ {vs : List V} {ds : List PyData} (n : Nat), DfAll K H vs ds → DfAll K H (vs.take n) (ds.take n)
  | _, _, 0, _ => .nil
  | _, _, _ + 1, .nil => .nil
  | _, _, n + 1, .cons h t => .cons h (DfAll.take n t)
theorem DfAll.drop {K : PySem.W.Frag} {H : Hp} : ∀ {vs : List V} {ds : List PyData} (n : Nat), DfAll K H vs ds → DfAll K H (vs.drop n) (ds.drop n)
  | _, _, 0, s => s
  | _, _, _ + 1, .nil => .nil
  | _, _, n + 1, .cons _ t => DfAll.drop n t
theorem DfAll.get {K : PySem.W.Frag} {H : Hp} : ∀ {vs : List V} {ds : List PyData} {i : Nat} {d : PyData}, DfAll K H vs ds → ds[i]? = some d → ∃ v, vs[i]? = some v ∧ Df K H v d
  | _, _, _, _, .nil, e => by simp at e
  | _, _, 0, _, .cons h _, e => by simp at e; subst e; exact ⟨_, rfl, h⟩
  | _, _, i + 1, d, .cons _ t, e => by
    obtain ⟨v, h1, h2⟩ := DfAll.get (i := i) (d := d) t (by simpa using e)
    exact ⟨v, by simpa using h1, h2⟩
theorem DfAll.set {K : PySem.W.Frag} {H : Hp} {v : V} {d : PyData} (h : Df K H v d) : ∀ {vs : List V} {ds : List PyData} (i : Nat), DfAll K H vs ds → DfAll K H (vs.set i v) (ds.set i d)
  | _, _, _, .nil => .nil
  | _, _, 0, .cons _ t => .cons h t
  | _, _, i + 1, .cons q t => .cons q (DfAll.set h i t)
mutual
theorem Df.dp {K : PySem.W.Frag} {H : Hp} : ∀ {v : V} {d : PyData}, Df K H v d → Dp K H v d
  | _, _, .non => .non
  | _, _, .bl b => .bl b
  | _, _, .int i => .int i
  | _, _, .str x => .str x
  | _, _, .lst h t => .lst h.sq (DfAll.dp t)
  | _, _, .tup h t => .tup h.sq (DfAll.dp t)
theorem DfAll.dp {K : PySem.W.Frag} {H : Hp} : ∀ {vs : List V} {ds : List PyData}, DfAll K H vs ds → DpAll K H vs ds
  | _, _, .nil => .nil
  | _, _, .cons h t => .cons (Df.dp h) (DfAll.dp t)
end
theorem Dn.dp {K : PySem.W.Frag} {H : Hp} {v : V} {d : PyData} (h : Dn K H v d) : Dp K H v d := by
  cases h with
  | of h => exact h.dp
  | lst h t => exact .lst (.inl (.inl h)) t.dp
section
variable {K : PySem.W.Frag} {H : Hp} {v : V}
theorem Dn.int_eq {i : Int} (h : Dn K H v (.int i)) : v = .int i := by cases h with | of h => cases h; rfl
theorem Dn.str_eq {x : Str} (h : Dn K H v (.str x)) : v = .str x := by cases h with | of h => cases h; rfl
theorem Dn.bool_eq {b : Bool} (h : Dn K H v (.bool b)) : v = .bl b := by cases h with | of h => cases h; rfl
theorem Dn.none_eq (h : Dn K H v .none) : v = .non := by cases h with | of h => cases h; rfl
theorem Dn.list_at {ds : List PyData} (h : Dn K H v (.list ds)) : ∃ a xs, v = .ref a ∧ SqL K H a xs ∧ DfAll K H xs ds := by
  cases h with
  | of h => cases h with | lst h t => exact ⟨_, _, rfl, h.sq, t⟩
  | lst h t => exact ⟨_, _, rfl, .inl (.inl h), t⟩
theorem Dn.tup_at {ds : List PyData} (h : Dn K H v (.tuple ds)) : ∃ a xs, v = .ref a ∧ FzT H a xs ∧ DfAll K H xs ds := by
  cases h with
  | of h => cases h with | tup h t => exact ⟨_, _, rfl, h, t⟩
theorem Df.list_at {ds : List PyData} (h : Df K H v (.list ds)) : ∃ a xs, v = .ref a ∧ FzL K H a xs ∧ DfAll K H xs ds := by
  cases h with | lst h t => exact ⟨_, _, rfl, h, t⟩
theorem Df.tup_at {ds : List PyData} (h : Df K H v (.tuple ds)) : ∃ a xs, v = .ref a ∧ FzT H a xs ∧ DfAll K H xs ds := by
  cases h with | tup h t => exact ⟨_, _, rfl, h, t⟩
end

/-- a value that may be a tuple of whatever make -/
def DfW (K : PySem.W.Frag) (H : Hp) (v : V) (d : PyData) : Prop := Df K H v d ∨ ∃ a xs ds, v = .ref a ∧ d = .tuple ds ∧ SqT K H a xs ∧ DfAll K H xs ds
/-- plain data (true), or a tuple of whatever make -/
def RlD (k : Bool) (K : PySem.W.Frag) (H : Hp) (v : V) (d : PyData) : Prop := if k = true then Df K H v d else DfW K H v d
theorem RlD.of {k : Bool} {K : PySem.W.Frag} {H : Hp} {v : V} {d : PyData} (h : Df K H v d) : RlD k K H v d := by
  unfold RlD
  split
  · exact h
  · exact .inl h
/-! ### the live cells -/
def RelR (K : PySem.W.Frag) (φ : List Addr) (H : Hp) (v : V) : R → Prop
  | .d x => Df K H v x
  | .ref i => ∃ a, φ[i]? = some a ∧ v = .ref a
abbrev RelRs (K : PySem.W.Frag) (φ : List Addr) (H : Hp) : List V → List R → Prop := Paired (RelR K φ H)
def keyD : L2.Key → D
  | .inl i => .int i
  | .inr x => .str x
abbrev RelKv (K : PySem.W.Frag) (φ : List Addr) (H : Hp) : List (L2.Key × V) → List (D × R) → Prop := Paired fun p q => keyD p.1 = q.1 ∧ RelR K φ H p.2 q.2
mutual
/-- data as a key -/
def toKey : D → Option NestedKey
  | .none => some .none
  | .int i => some (.num i)
  | .str x => some (.text x)
  | .tuple xs => (toKeys xs).map .tup
  | _ => none
def toKeys : List D → Option (List NestedKey)
  | [] => some []
  | x :: xs => match toKey x, toKeys xs with
    | some k, some ks => some (k :: ks)
    | _, _ => none
end
/-- a tuple that may be a key (depth 6 at most) -/
def keyH (d : D) : Option NestedKey := match d with
  | .tuple xs => match toKeys xs with
    | some ks => if (NestedKey.tup ks).depth ≤ 6 then some (.tup ks) else none
    | none => none
  | _ => none
/-- the dict with tuples as keys at a, by its entries -/
def DicO (w : World) (a : Addr) (xs : List (NestedKey × Addr × Value)) : HO := .ext fun h => (∃ o ep, h.get? a = some o ∧ o.ExactDict ∧ o.data = .dict (xs.map fun x => (⟨NestedKey.hash w x.1, .ref x.2.1, x.2.2⟩ : DictEntry)).toArray ep) ∧ xs.length ≤ sizeLine ∧ (a == sysModules) = false ∧ (xs.map (·.1)).Nodup
abbrev RelH (K : PySem.W.Frag) (φ : List Addr) (H : Hp) : List (NestedKey × Addr × Value) → List (D × R) → Prop := Paired fun p q => keyH q.1 = some p.1 ∧ Df K H (.ref p.2.1) q.1 ∧ ∃ v, RelV v p.2.2 ∧ RelR K φ H v q.2
abbrev RelFs (K : PySem.W.Frag) (φ : List Addr) (H : Hp) : List (Str × V) → List (Str × R) → Prop := Paired fun p q => p.1 = q.1 ∧ RelR K φ H p.2 q.2
def CellOk (w : World) (K : PySem.W.Frag) (φ : List Addr) (H : Hp) (a : Addr) : Cell → Prop
  | .lst xs => ∃ vs, H a = some (.lst vs) ∧ DfAll K H vs xs
  | .dic kvs => ∃ kv, H a = some (.dK kv) ∧ RelKv K φ H kv kvs
  | .dih kvs => ∃ xs, H a = some (DicO w a xs) ∧ RelH K φ H xs kvs
  | .lck kvs => ∃ o kv, H a = some (.frz o (.dK kv)) ∧ RelKv K φ H kv kvs
  | .lch kvs => ∃ o xs, H a = some (.frz o (DicO w a xs)) ∧ RelH K φ H xs kvs
  | .obj c fs => ∃ dx fv, H a = some (.ins (He.ga K (Str.ofString c)) dx fv) ∧ RelFs K φ H fv fs
  | .gone => True
theorem RelR.mono {K : PySem.W.Frag} {φ φ' : List Addr} {H H' : Hp} (pre : φ <+: φ') (st : Stab H H') {v : V} {r : R} (h : RelR K φ H v r) : RelR K φ' H' v r := by
  cases r with
  | d x => exact Df.mono st h
  | ref i =>
    obtain ⟨a, h1, h2⟩ := h
    obtain ⟨ψ, rfl⟩ := pre
    exact ⟨a, by rw [List.getElem?_append_left (List.getElem?_eq_some_iff.mp h1).1]; exact h1, h2⟩
theorem RelKv.mono {K : PySem.W.Frag} {φ φ' : List Addr} {H H' : Hp} (pre : φ <+: φ') (st : Stab H H') : ∀ {kv : List (L2.Key × V)} {kvs : List (D × R)}, RelKv K φ H kv kvs → RelKv K φ' H' kv kvs
  | _, _, .nil => .nil
  | _, _, .cons h t => .cons ⟨h.1, RelR.mono pre st h.2⟩ (RelKv.mono pre st t)
theorem RelFs.mono {K : PySem.W.Frag} {φ φ' : List Addr} {H H' : Hp} (pre : φ <+: φ') (st : Stab H H') : ∀ {fv : List (Str × V)} {fs : List (Str × R)}, RelFs K φ H fv fs → RelFs K φ' H' fv fs
  | _, _, .nil => .nil
  | _, _, .cons h t => .cons ⟨h.1, RelR.mono pre st h.2⟩ (RelFs.mono pre st t)
theorem RelH.mono {K : PySem.W.Frag} {φ φ' : List Addr} {H H' : Hp} (pre : φ <+: φ') (st : Stab H H') : ∀ {xs : List (NestedKey × Addr × Value)} {kvs : List (D × R)}, RelH K φ H xs kvs → RelH K φ' H' xs kvs
  | _, _, .nil => .nil
  | _, _, .cons h t => .cons ⟨h.1, Df.mono st h.2.1, let ⟨v, q1, q2⟩ := h.2.2; ⟨v, q1, RelR.mono pre st q2⟩⟩ (RelH.mono pre st t)
theorem CellOk.mono {K : PySem.W.Frag} {φ φ' : List Addr} {H H' : Hp} {a : Addr} {c : Cell} (pre : φ <+: φ') (st : Stab H H') (k : ∀ o, H a = some o → H' a = some o) (h : CellOk w K φ H a c) : CellOk w K φ' H' a c := by
  cases c with
  | lst xs => obtain ⟨vs, q1, q2⟩ := h; exact ⟨vs, k _ q1, DfAll.mono st q2⟩
  | dic kvs => obtain ⟨kv, q1, q2⟩ := h; exact ⟨kv, k _ q1, RelKv.mono pre st q2⟩
  | dih kvs => obtain ⟨xs, q1, q2⟩ := h; exact ⟨xs, k _ q1, RelH.mono pre st q2⟩
  | lck kvs => obtain ⟨o, kv, q1, q2⟩ := h; exact ⟨o, kv, k _ q1, RelKv.mono pre st q2⟩
  | lch kvs => obtain ⟨o, xs, q1, q2⟩ := h; exact ⟨o, xs, k _ q1, RelH.mono pre st q2⟩
  | obj c fs => obtain ⟨dx, fv, q1, q2⟩ := h; exact ⟨dx, fv, k _ q1, RelFs.mono pre st q2⟩
  | gone => exact trivial
structure StOk (w : World) (K : PySem.W.Frag) (φ : List Addr) (H : Hp) (S : Store) : Prop where
  len : φ.length = S.length
  nd : φ.Nodup
  there : ∀ a ∈ φ, ∃ o, H a = some o
  cell : ∀ (i : Nat) (a : Addr) (c : Cell), φ[i]? = some a → S[i]? = some c → CellOk w K φ H a c
structure EnvOk (K : PySem.W.Frag) (φ : List Addr) (H : Hp) (σ : L2.St) (ρ : Env) : Prop where
  len : σ.length = ρ.length
  at_ : ∀ (i : Nat) (r : R), ρ[i]? = some (some r) → ∃ v, σ[i]? = some (some v) ∧ RelR K φ H v r
/-- later: more cells; what stays, and what is no cell of ours, stands -/
structure Grow (φ : List Addr) (H : Hp) (φ' : List Addr) (H' : Hp) : Prop where
  pre : φ <+: φ'
  keep : ∀ a o, H a = some o → (stable o = true ∨ a ∉ φ) → H' a = some o
  new : ∀ a ∈ φ', a ∈ φ ∨ H a = none
theorem Grow.refl (φ : List Addr) (H : Hp) : Grow φ H φ H := ⟨List.prefix_refl _, fun _ _ h _ => h, fun _ h => .inl h⟩
theorem Grow.trans {φ φ1 φ2 : List Addr} {H H1 H2 : Hp} (a : Grow φ H φ1 H1) (b : Grow φ1 H1 φ2 H2) : Grow φ H φ2 H2 where
  pre := a.pre.trans b.pre
  keep := fun c o h q => by
    have h1 := a.keep c o h q
    refine b.keep c o h1 ?_
    rcases q with q | q
    · exact .inl q
    · refine .inr fun hc => ?_
      rcases a.new c hc with z | z
      · exact q z
      · rw [h] at z; cases z
  new := fun c hc => by
    rcases b.new c hc with z | z
    · exact a.new c z
    · cases q : H c with
      | none => exact .inr rfl
      | some o =>
        by_cases hm : c ∈ φ
        · exact .inl hm
        · rw [a.keep c o q (.inr hm)] at z; cases z
theorem Grow.stab {φ φ' : List Addr} {H H' : Hp} (g : Grow φ H φ' H') : Stab H H' := fun a o s h => g.keep a o h (.inl s)
theorem Grow.none {φ φ' : List Addr} {H H' : Hp} (g : Grow φ H φ' H') {p : Addr} (n : H' p = Option.none) (hp : p ∉ φ') : H p = Option.none := by
  cases q : H p with
  | none => rfl
  | some o => rw [g.keep p o q (.inr fun h => hp (g.pre.subset h))] at n; cases n
theorem Grow.same {φ : List Addr} {H H' : Hp} (s : Same H H') : Grow φ H φ H' := ⟨List.prefix_refl _, fun a o h _ => s a o h, fun _ h => .inl h⟩
theorem Grow.at_ {φ φ' : List Addr} {H H' : Hp} (g : Grow φ H φ' H') {i : Nat} {a : Addr} (h : φ[i]? = some a) : φ'[i]? = some a := by
  obtain ⟨ψ, rfl⟩ := g.pre
  rw [List.getElem?_append_left (List.getElem?_eq_some_iff.mp h).1]
  exact h
theorem Stab.trans {H H1 H2 : Hp} (a : Stab H H1) (b : Stab H1 H2) : Stab H H2 := fun c o s h => b c o s (a c o s h)
theorem Same.stab {H H' : Hp} (s : Same H H') : Stab H H' := fun a o _ h => s a o h
theorem RelR.grow {K : PySem.W.Frag} {φ φ' : List Addr} {H H' : Hp} (g : Grow φ H φ' H') {v : V} {r : R} (h : RelR K φ H v r) : RelR K φ' H' v r := by
  cases r with
  | d x => exact Df.mono g.stab h
  | ref i => obtain ⟨a, h1, h2⟩ := h; exact ⟨a, g.at_ h1, h2⟩
theorem RelRs.grow {K : PySem.W.Frag} {φ φ' : List Addr} {H H' : Hp} (g : Grow φ H φ' H') : ∀ {vs : List V} {rs : List R}, RelRs K φ H vs rs → RelRs K φ' H' vs rs
  | _, _, .nil => .nil
  | _, _, .cons h t => .cons (RelR.grow g h) (RelRs.grow g t)
theorem EnvOk.grow {K : PySem.W.Frag} {φ φ' : List Addr} {H H' : Hp} {σ : L2.St} {ρ : Env} (g : Grow φ H φ' H') (h : EnvOk K φ H σ ρ) : EnvOk K φ' H' σ ρ :=
  ⟨h.len, fun i r e => let ⟨v, e1, q⟩ := h.at_ i r e; ⟨v, e1, q.grow g⟩⟩
theorem StOk.same {K : PySem.W.Frag} {φ : List Addr} {H H' : Hp} {S : Store} (s : Same H H') (h : StOk w K φ H S) : StOk w K φ H' S where
  len := h.len
  nd := h.nd
  there := fun a ha => let ⟨o, e⟩ := h.there a ha; ⟨o, s a o e⟩
  cell := fun i a c e1 e2 => (h.cell i a c e1 e2).mono (List.prefix_refl _) (Same.stab s) fun o e => s a o e
/-- cells stand where all of them, and what stays, stand -/
theorem StOk.keep {K : PySem.W.Frag} {φ : List Addr} {H H' : Hp} {S : Store} (st : Stab H H') (s : ∀ a ∈ φ, ∀ o, H a = some o → H' a = some o) (h : StOk w K φ H S) : StOk w K φ H' S where
  len := h.len
  nd := h.nd
  there := fun a ha => let ⟨o, e⟩ := h.there a ha; ⟨o, s a ha o e⟩
  cell := fun i a c e1 e2 => (h.cell i a c e1 e2).mono (List.prefix_refl _) st fun o e => s a (List.mem_of_getElem? e1) o e
theorem StOk.free {K : PySem.W.Frag} {φ : List Addr} {H : Hp} {S : Store} (h : StOk w K φ H S) {p : Addr} (n : H p = Option.none) : p ∉ φ := fun hp => by
  obtain ⟨o, e⟩ := h.there p hp
  rw [n] at e; cases e
theorem StOk.nil {K : PySem.W.Frag} {H : Hp} : StOk w K [] H [] := ⟨rfl, List.nodup_nil, (fun _ h => nomatch h), fun i a c e => by simp at e⟩
/-- what is read now -/
theorem RelR.rd {K : PySem.W.Frag} {φ : List Addr} {H : Hp} {S : Store} (so : StOk w K φ H S) {v : V} {r : R} {x : D} (h : RelR K φ H v r) (e : rd S r = some x) : Dn K H v x := by
  cases r with
  | d y => cases e; exact .of h
  | ref i =>
    obtain ⟨a, h1, rfl⟩ := h
    unfold Pi.rd at e
    cases q : S[i]? with
    | none => simp [q] at e
    | some c =>
      simp only [q] at e
      cases c with
      | lst xs =>
        cases e
        obtain ⟨vs, q1, q2⟩ := so.cell i a _ h1 q
        exact .lst q1 q2
      | _ => cases e
theorem RelR.plain {K : PySem.W.Frag} {φ : List Addr} {H : Hp} {v : V} {r : R} {x : D} (h : RelR K φ H v r) (e : rdR r = some x) : Df K H v x := by
  cases r with
  | d y => cases e; exact h
  | ref i => cases e

/-- an exception, as it lies -/
def XnOk (mg : Str → Option Value) (K : PySem.W.Frag) (H : Hp) (x : Xn) (cls : Value) (dA : Option Addr) : Prop :=
  ∃ C, mg (Str.ofString x.cls) = some (.ref C) ∧ cls = .ref C ∧
    (x.fs = [] ∨ ∃ d fv, dA = some d ∧ H d = some (.xd fv) ∧ Paired (fun (p : Str × V) (q : Str × D) => p.1 = q.1 ∧ Df K H p.2 q.2) fv x.fs)

/-- what is wanted of an answer -/
def EndR {α : Type} (w : World) (K : PySem.W.Frag) (mg : Str → Option Value) (W : WX) (φ : List Addr) (H : Hp) (σ : L2.St) (P : α → List Addr → Store → Hp → Prop) : Res α → Prop
  | .ok a S' => ∀ φ' H', Grow φ H φ' H' → StOk w K φ' H' S' → P a φ' S' H'
  | .ex x S' => ∀ φ' H' cls dA, Grow φ H φ' H' → StOk w K φ' H' S' → XnOk mg K H' x cls dA → W cls dA σ H'
  | .no => False
section
variable {α β : Type} {K : PySem.W.Frag} {mg : Str → Option Value} {W : WX} {φ : List Addr} {H : Hp} {σ : L2.St}
theorem EndR.imp {P P' : α → List Addr → Store → Hp → Prop} {r : Res α} (h : EndR w K mg W φ H σ P r) (f : ∀ a φ' S' H', r = .ok a S' → Grow φ H φ' H' → StOk w K φ' H' S' → P a φ' S' H' → P' a φ' S' H') : EndR w K mg W φ H σ P' r := by
  cases r with
  | ok a S' => exact fun φ' H' g so => f a φ' S' H' rfl g so (h φ' H' g so)
  | ex x S' => exact h
  | no => exact h
theorem EndR.bind {P : β → List Addr → Store → Hp → Prop} {r : Res α} {f : α → Store → Res β} (h : EndR w K mg W φ H σ P (r.bind f)) :
    EndR w K mg W φ H σ (fun a φ1 S1 H1 => EndR w K mg W φ1 H1 σ P (f a S1)) r := by
  cases r with
  | ok a S1 =>
    intro φ1 H1 g1 so1
    have h' : EndR w K mg W φ H σ P (f a S1) := h
    show EndR w K mg W φ1 H1 σ P (f a S1)
    cases q : f a S1 with
    | ok b S2 => rw [q] at h'; exact fun φ2 H2 g2 so2 => h' φ2 H2 (g1.trans g2) so2
    | ex x S2 => rw [q] at h'; exact fun φ2 H2 cls dA g2 so2 => h' φ2 H2 cls dA (g1.trans g2) so2
    | no => rw [q] at h'; exact h'
  | ex x S1 => exact h
  | no => exact h
/-- the same, asked later -/
theorem EndR.later {φ1 : List Addr} {H1 : Hp} {P : α → List Addr → Store → Hp → Prop} {r : Res α} (g1 : Grow φ H φ1 H1) (h : EndR w K mg W φ H σ P r) : EndR w K mg W φ1 H1 σ P r := by
  cases r with
  | ok b S2 => exact fun φ2 H2 g2 so2 => h φ2 H2 (g1.trans g2) so2
  | ex x S2 => exact fun φ2 H2 cls dA g2 so2 => h φ2 H2 cls dA (g1.trans g2) so2
  | no => exact h
/-- an answer that is there: now -/
theorem EndR.now {P : α → List Addr → Store → Hp → Prop} {a : α} {S : Store} (so : StOk w K φ H S) (h : EndR w K mg W φ H σ P (.ok a S)) : P a φ S H := h φ H (Grow.refl φ H) so
end

/-! ### readings and judgements -/
section
variable (w : World) (K : PySem.W.Frag) (mg : Str → Option Value) (W : WX)
def rdE (m : EM) : TE := fun σ H Q => ∃ φ ρ S, EnvOk K φ H σ ρ ∧ StOk w K φ H S ∧ EndR w K mg W φ H σ (fun r φ' _ H' => ∀ v, RelR K φ' H' v r → Q v H') (m ρ S)
def rdT (m : TM) : TT := fun σ H Q => ∃ φ ρ S, EnvOk K φ H σ ρ ∧ StOk w K φ H S ∧ EndR w K mg W φ H σ (fun b _ _ H' => Q b H') (m ρ S)
def rdA (m : AM) : TA := fun σ H Q => ∃ φ ρ S, EnvOk K φ H σ ρ ∧ StOk w K φ H S ∧ EndR w K mg W φ H σ (fun rs φ' _ H' => ∀ vs, RelRs K φ' H' vs rs → Q vs H') (m ρ S)
/-- a new list -/
def rdN (m : IM) : TE := fun σ H Q => ∃ φ ρ S, EnvOk K φ H σ ρ ∧ StOk w K φ H S ∧
  EndR w K mg W φ H σ (fun ds φ' _ H' => ∀ p vs, H p = none → p ∉ φ' → H' p = some (.lst vs) → DfAll K H' vs ds → Q (.ref p) H') (m ρ S)
/-- what is wanted of a statement's answer -/
def EndS (φ : List Addr) (H : Hp) (D : Ends) : Out → Prop
  | .nx ρ' S' => ∀ φ' σ' H', Grow φ H φ' H' → StOk w K φ' H' S' → EnvOk K φ' H' σ' ρ' → D.nx σ' H'
  | .rt r S' => ∀ φ' v H', Grow φ H φ' H' → StOk w K φ' H' S' → RelR K φ' H' v r → D.rt v H'
  | .ex x ρ' S' => ∀ φ' σ' H' cls dA, Grow φ H φ' H' → StOk w K φ' H' S' → EnvOk K φ' H' σ' ρ' → XnOk mg K H' x cls dA → W cls dA σ' H'
  | .no => False
def rdS (m : SM) : TS := fun D σ H => ∃ φ ρ S, EnvOk K φ H σ ρ ∧ StOk w K φ H S ∧ EndS w K mg W φ H D (m ρ S)
end
abbrev IE (X : Cx) (W : WX) (e : Expr) (m : EM) : Prop := PE X e (rdE X.w X.K X.mg W m)
abbrev IT (X : Cx) (W : WX) (e : Expr) (m : TM) : Prop := PT X e (rdT X.w X.K X.mg W m)
abbrev IA (X : Cx) (W : WX) (es : List Expr) (m : AM) : Prop := PA X es (rdA X.w X.K X.mg W m)
abbrev IN (X : Cx) (W : WX) (e : Expr) (m : IM) : Prop := PE X e (rdN X.w X.K X.mg W m)
abbrev IS (X : Cx) (W : WX) (st : Stmt) (m : SM) : Prop := PS X st (rdS X.w X.K X.mg W m)
abbrev ISs (X : Cx) (W : WX) (st : List Stmt) (m : SM) : Prop := PSs X st (rdS X.w X.K X.mg W m)

section
variable {X : Cx}
theorem PE.imp {e : Expr} {t t' : TE} (h : PE X e t) (f : ∀ σ H Q, t' σ H Q → t σ H Q) : PE X e t' := ⟨fun pins s σ H Q I q => h.run pins s σ H Q I (f σ H Q q)⟩
theorem PT.imp {e : Expr} {t t' : TT} (h : PT X e t) (f : ∀ σ H Q, t' σ H Q → t σ H Q) : PT X e t' := ⟨fun pins s σ H Q I q => h.run pins s σ H Q I (f σ H Q q)⟩
theorem PW.imp {e : Expr} {t t' : TT} (h : PW X e t) (f : ∀ σ H Q, t' σ H Q → t σ H Q) : PW X e t' := ⟨fun wh pins s σ H Q I q => h.run wh pins s σ H Q I (f σ H Q q)⟩
theorem PA.imp {es : List Expr} {t t' : TA} (h : PA X es t) (f : ∀ σ H Q, t' σ H Q → t σ H Q) : PA X es t' := ⟨fun pos pins s σ H Q I q => h.run pos pins s σ H Q I (f σ H Q q)⟩
theorem PS.imp {st : Stmt} {t t' : TS} (h : PS X st t) (f : ∀ D σ H, t' D σ H → t D σ H) : PS X st t' := ⟨fun pins s σ H D I q => h.run pins s σ H D I (f D σ H q)⟩
theorem PSs.imp {st : List Stmt} {t t' : TS} (h : PSs X st t) (f : ∀ D σ H, t' D σ H → t D σ H) : PSs X st t' := ⟨fun pins s σ H D I q => h.run pins s σ H D I (f D σ H q)⟩
end
end Pi

set_option Elab.async false
set_option linter.all false
set_option maxRecDepth 100000
/-! Pi2: the rules of expressions. -/
namespace Pi
open PySem PySem.Spec PyProof.Rows L2

def mB (m : EM) : TM := fun ρ S => (m ρ S).bind fun r S1 => match r with
  | .d (.bool k) => .ok k S1
  | _ => .no
def opRd (K : PySem.W.Frag) (g : D → D → Option D) : R2 := fun x y H Q => ∃ d1 d2 z, Dn K H x d1 ∧ Dn K H y d2 ∧ g d1 d2 = some z ∧ ∀ v H', L2.Same H H' → Df K H' v z → Q v H'
def opRdL (K : PySem.W.Frag) (g : D → D → Option (List D)) : R2 := fun x y H Q => ∃ d1 d2 zs, Dn K H x d1 ∧ Dn K H y d2 ∧ g d1 d2 = some zs ∧ ∀ p vs H', L2.Same H H' → H p = none → H' p = some (.lst vs) → DfAll K H' vs zs → Q (.ref p) H'
abbrev DnAll (K : PySem.W.Frag) (H : Hp) : List V → List D → Prop := Paired (Dn K H)
def cbRd (K : PySem.W.Frag) (g : List D → Option D) : List V → Hp → VK → Prop := fun vs H Q => ∃ ds z, DnAll K H vs ds ∧ g ds = some z ∧ ∀ v H', L2.Same H H' → Df K H' v z → Q v H'
def cbRdL (K : PySem.W.Frag) (g : List D → Option (List D)) : List V → Hp → VK → Prop := fun vs H Q => ∃ ds zs, DnAll K H vs ds ∧ g ds = some zs ∧
  ∀ p ws H', L2.Same H H' → H p = none → H' p = some (.lst ws) → DfAll K H' ws zs → Q (.ref p) H'

section
variable {K : PySem.W.Frag} {mg : Str → Option Value} {W : WX} {σ : L2.St} {H : Hp}
theorem rd_var {i : Nat} {Q : VK} (h : rdE w K mg W (mVar i) σ H Q) : tVar i σ H Q := by
  obtain ⟨φ, ρ, S, eo, so, h⟩ := h
  unfold mVar at h
  split at h
  · rename_i r e
    obtain ⟨v, e1, q⟩ := eo.at_ i r e
    exact ⟨v, e1, h.now so v q⟩
  · exact h.elim
theorem rd_mB {m : EM} {Q : Bool → Hp → Prop} (h : rdT w K mg W (mB m) σ H Q) : rdE w K mg W m σ H (fun x H' => ∃ k, x = .bl k ∧ Q k H') := by
  obtain ⟨φ, ρ, S, eo, so, h⟩ := h
  refine ⟨φ, ρ, S, eo, so, (EndR.bind h).imp fun r φ1 S1 H1 er g1 so1 h1 v r1 => ?_⟩
  split at h1
  · rename_i k
    cases r1
    exact ⟨k, rfl, h1.now so1⟩
  · exact h1.elim
theorem rd_op2 {g : D → D → Option D} {a b : EM} {Q : VK} (h : rdE w K mg W (mOp2 g a b) σ H Q) : tOp (opRd K g) (rdE w K mg W a) (rdE w K mg W b) σ H Q := by
  obtain ⟨φ, ρ, S, eo, so, h⟩ := h
  refine ⟨φ, ρ, S, eo, so, (EndR.bind h).imp fun x φ1 S1 H1 _ g1 so1 h1 v1 r1 => ?_⟩
  refine ⟨φ1, ρ, S1, eo.grow g1, so1, (EndR.bind h1).imp fun y φ2 S2 H2 _ g2 so2 h2 v2 r2 => ?_⟩
  split at h2
  · rename_i x' y' q1 q2
    split at h2
    · rename_i z q3
      exact ⟨x', y', z, (r1.grow g2).rd so2 q1, r2.rd so2 q2, q3, fun v H' s d => h2 φ2 H' (Grow.same s) (so2.same s) v d⟩
    · exact h2.elim
  · exact h2.elim
theorem rd_op2L {g : D → D → Option (List D)} {a b : EM} {Q : VK} (h : rdN w K mg W (mOp2L g a b) σ H Q) : tOp (opRdL K g) (rdE w K mg W a) (rdE w K mg W b) σ H Q := by
  obtain ⟨φ, ρ, S, eo, so, h⟩ := h
  refine ⟨φ, ρ, S, eo, so, (EndR.bind h).imp fun x φ1 S1 H1 _ g1 so1 h1 v1 r1 => ?_⟩
  refine ⟨φ1, ρ, S1, eo.grow g1, so1, (EndR.bind h1).imp fun y φ2 S2 H2 _ g2 so2 h2 v2 r2 => ?_⟩
  split at h2
  · rename_i x' y' q1 q2
    unfold Res.opt at h2
    split at h2
    · rename_i zs q3
      refine ⟨x', y', zs, (r1.grow g2).rd so2 q1, r2.rd so2 q2, q3, fun p vs H' s n e d => h2 φ2 H' (Grow.same s) (so2.same s) p vs ?_ ?_ e d⟩
      · exact Grow.none (g1.trans g2) n (so2.free n)
      · exact so2.free n
    · exact h2.elim
  · exact h2.elim
theorem rd_cons {a : EM} {r : AM} {Q : List V → Hp → Prop} (h : rdA w K mg W (mCons a r) σ H Q) : tCons (rdE w K mg W a) (rdA w K mg W r) σ H Q := by
  obtain ⟨φ, ρ, S, eo, so, h⟩ := h
  refine ⟨φ, ρ, S, eo, so, (EndR.bind h).imp fun x φ1 S1 H1 _ g1 so1 h1 v1 r1 => ?_⟩
  refine ⟨φ1, ρ, S1, eo.grow g1, so1, (EndR.bind h1).imp fun xs φ2 S2 H2 _ g2 so2 h2 vs r2 => ?_⟩
  exact h2.now so2 (v1 :: vs) (.cons (r1.grow g2) r2)
theorem rd_nil {Q : List V → Hp → Prop} (h : rdA w K mg W mNil σ H Q) : tNil σ H Q := by
  obtain ⟨φ, ρ, S, eo, so, h⟩ := h
  exact EndR.now so h [] .nil
theorem all_df {φ : List Addr} : ∀ {vs : List V} {rs : List R} {ds : List D}, RelRs K φ H vs rs → allD rs = some ds → DfAll K H vs ds
  | _, _, _, .nil, e => by cases e; exact .nil
  | _, .d x :: rs, ds, .cons h t, e => by
    unfold allD at e
    cases q : allD rs with
    | none => rw [q] at e; cases e
    | some xs => rw [q] at e; cases e; exact .cons h (all_df t q)
  | _, .ref i :: rs, ds, .cons h t, e => by cases e
theorem all_dn {φ : List Addr} {S : Store} (so : StOk w K φ H S) : ∀ {vs : List V} {rs : List R} {ds : List D}, RelRs K φ H vs rs → rdAll S rs = some ds → DnAll K H vs ds
  | _, _, _, .nil, e => by cases e; exact .nil
  | _, x :: rs, ds, .cons h t, e => by
    unfold rdAll at e
    split at e
    · rename_i x' xs q1 q2
      cases e
      exact .cons (h.rd so q1) (all_dn so t q2)
    · cases e
/-- a display of a tuple, told as the plain tuple that it is -/
def tTupF (t : TA) : TE := fun σ H Q => t σ H fun xs H1 => xs.length ≤ sizeLine ∧ ∀ p o, H1 p = none → o.dict = none → Q (.ref p) (upd H1 p (.frz o (.tup xs)))
theorem laid_tup {X : Cx} {pins : List (Addr × Obj)} {H : Hp} {s : Shared} (I : Inv X pins σ H s) {xs : List V} {us : List Value} {tk : Nat} (z : xs.length ≤ sizeLine) (r : Vals xs us) :
    Inv X pins σ (upd H s.heap.objs.size (.frz { cls := .type "tuple", data := .seq us.toArray } (.tup xs))) { s with heap := s.heap.push { cls := .type "tuple", data := .seq us.toArray }, toks := tk } :=
  I.laid (t' := tk) (fun b u e => Heap.get?_push_of_some _ e) (Nat.le_refl _) ⟨Heap.get?_push_size _ rfl, z, us, r, ⟨_, Heap.get?_push_size _ rfl, rfl, _, rfl⟩⟩
theorem pe_tupF {X : Cx} {es : List Expr} {x1} {pos : Pos} {t : TA} (h : PA X es t) : PE X (.Tuple es x1 pos) (tTupF t) := by
  constructor
  intro pins s σ H Q I hq
  refine wpAny_Tuple_spliced (thn (h.run pos pins s σ H _ I hq) ?_)
  rintro us s1 ⟨xs, H1, I1, r, z, q⟩
  exact ⟨by rw [← r.length]; exact z, .ref s1.heap.objs.size, _, laid_tup (tk := s1.toks) I1 z r, rfl, q _ _ (I1.hok.fresh (Nat.le_refl _)) rfl⟩
theorem rd_tup {a : AM} {Q : VK} (h : rdE w K mg W (mTup a) σ H Q) : tTupF (rdA w K mg W a) σ H Q := by
  obtain ⟨φ, ρ, S, eo, so, h⟩ := h
  refine ⟨φ, ρ, S, eo, so, (EndR.bind h).imp fun xs φ1 S1 H1 _ g1 so1 h1 vs r1 => ?_⟩
  split at h1
  · rename_i ds q
    split at h1
    · rename_i hz
      have df := all_df r1 q
      refine ⟨by rw [df.length]; exact hz, fun p o hp ho => ?_⟩
      have s : L2.Same H1 (upd H1 p (.frz o (.tup vs))) := fun b o e => by rw [upd_ne (ne_of_none e hp)]; exact e
      exact h1 φ1 _ (Grow.same s) (so1.same s) _ (.tup ⟨o, upd_same, ho⟩ (DfAll.mono (Same.stab s) df))
    · exact h1.elim
  · exact h1.elim
theorem rd_disp {a : AM} {Q : VK} (h : rdN w K mg W (mDisp a) σ H Q) : tLst (rdA w K mg W a) σ H Q := by
  obtain ⟨φ, ρ, S, eo, so, h⟩ := h
  refine ⟨φ, ρ, S, eo, so, (EndR.bind h).imp fun xs φ1 S1 H1 _ g1 so1 h1 vs r1 => ?_⟩
  split at h1
  · rename_i ds q
    split at h1
    · rename_i hz
      have df := all_df r1 q
      refine ⟨by rw [df.length]; exact hz, fun p hp => ?_⟩
      have s : L2.Same H1 (upd H1 p (.lst vs)) := fun b o e => by rw [upd_ne (ne_of_none e hp)]; exact e
      exact h1 φ1 _ (Grow.same s) (so1.same s) p vs (Grow.none g1 hp (so1.free hp)) (so1.free hp) upd_same (DfAll.mono (Same.stab s) df)
    · exact h1.elim
  · exact h1.elim
theorem rd_cb {g : List D → Option D} {a : AM} {Q : VK} (h : rdE w K mg W (mCB g a) σ H Q) : tCB (cbRd K g) (rdA w K mg W a) σ H Q := by
  obtain ⟨φ, ρ, S, eo, so, h⟩ := h
  refine ⟨φ, ρ, S, eo, so, (EndR.bind h).imp fun xs φ1 S1 H1 _ g1 so1 h1 vs r1 => ?_⟩
  split at h1
  · rename_i ds q
    split at h1
    · rename_i z q3
      exact ⟨ds, z, all_dn so1 r1 q, q3, fun v H' s d => h1 φ1 H' (Grow.same s) (so1.same s) v d⟩
    · exact h1.elim
  · exact h1.elim
theorem rd_cbL {g : List D → Option (List D)} {a : AM} {Q : VK} (h : rdN w K mg W (mCBL g a) σ H Q) : tCB (cbRdL K g) (rdA w K mg W a) σ H Q := by
  obtain ⟨φ, ρ, S, eo, so, h⟩ := h
  refine ⟨φ, ρ, S, eo, so, (EndR.bind h).imp fun xs φ1 S1 H1 _ g1 so1 h1 vs r1 => ?_⟩
  split at h1
  · rename_i ds q
    unfold Res.opt at h1
    split at h1
    · rename_i zs q3
      refine ⟨ds, zs, all_dn so1 r1 q, q3, fun p ws H' s n e d => h1 φ1 H' (Grow.same s) (so1.same s) p ws (Grow.none g1 n (so1.free n)) (so1.free n) e d⟩
    · exact h1.elim
  · exact h1.elim
/-- truth -/
theorem Dn.tru {v : V} {d : D} {k : Bool} (h : Dn K H v d) (e : truD d = some k) : TruV K v H k := by
  cases d with
  | none => cases h.none_eq; cases e; rfl
  | bool b => cases h.bool_eq; cases e; rfl
  | int i => cases h.int_eq; cases e; rfl
  | str x =>
    cases h.str_eq
    have e' : (if x.length ≤ sizeLine then some ((x.length : Int) != 0) else none) = some k := e
    by_cases hz : x.length ≤ sizeLine
    · rw [if_pos hz] at e'; cases e'; exact ⟨hz, rfl⟩
    · rw [if_neg hz] at e'; cases e'
  | list xs =>
    obtain ⟨a, vs, rfl, hs, t⟩ := h.list_at
    cases e
    refine .inl ⟨vs, hs, ?_⟩
    cases t <;> rfl
  | tuple xs =>
    obtain ⟨a, vs, rfl, hs, t⟩ := h.tup_at
    cases e
    refine .inr (.inl ⟨vs, hs.sq, ?_⟩)
    cases t <;> rfl
  | dict _ => cases e
theorem rd_truth {m : EM} {Q : Bool → Hp → Prop} (h : rdT w K mg W (mTruth m) σ H Q) : rdE w K mg W m σ H (fun x H' => ∃ k, TruV K x H' k ∧ Q k H') := by
  obtain ⟨φ, ρ, S, eo, so, h⟩ := h
  refine ⟨φ, ρ, S, eo, so, (EndR.bind h).imp fun r φ1 S1 H1 _ g1 so1 h1 v r1 => ?_⟩
  split at h1
  · rename_i x' q
    unfold Res.opt at h1
    split at h1
    · rename_i k q2
      exact ⟨k, (r1.rd so1 q).tru q2, h1.now so1⟩
    · exact h1.elim
  · exact h1.elim
theorem rd_and {a b : TM} {Q : Bool → Hp → Prop} (h : rdT w K mg W (mAndT a b) σ H Q) : tAnd (rdT w K mg W a) (rdT w K mg W b) σ H Q := by
  obtain ⟨φ, ρ, S, eo, so, h⟩ := h
  refine ⟨φ, ρ, S, eo, so, (EndR.bind h).imp fun c φ1 S1 H1 _ g1 so1 h1 => ?_⟩
  cases c with
  | true => exact ⟨φ1, ρ, S1, eo.grow g1, so1, h1⟩
  | false => exact h1.now so1
theorem rd_or {a b : TM} {Q : Bool → Hp → Prop} (h : rdT w K mg W (mOrT a b) σ H Q) : tOr (rdT w K mg W a) (rdT w K mg W b) σ H Q := by
  obtain ⟨φ, ρ, S, eo, so, h⟩ := h
  refine ⟨φ, ρ, S, eo, so, (EndR.bind h).imp fun c φ1 S1 H1 _ g1 so1 h1 => ?_⟩
  cases c with
  | true => exact h1.now so1
  | false => exact ⟨φ1, ρ, S1, eo.grow g1, so1, h1⟩
theorem rd_not {a : TM} {Q : Bool → Hp → Prop} (h : rdT w K mg W (mNotT a) σ H Q) : tNot (rdT w K mg W a) σ H Q := by
  obtain ⟨φ, ρ, S, eo, so, h⟩ := h
  exact ⟨φ, ρ, S, eo, so, (EndR.bind h).imp fun c φ1 S1 H1 _ g1 so1 h1 => h1.now so1⟩
theorem rd_ifE {c : TM} {a b : EM} {Q : VK} (h : rdE w K mg W (mIfE c a b) σ H Q) : tIf (rdT w K mg W c) (rdE w K mg W a) (rdE w K mg W b) σ H Q := by
  obtain ⟨φ, ρ, S, eo, so, h⟩ := h
  refine ⟨φ, ρ, S, eo, so, (EndR.bind h).imp fun c φ1 S1 H1 _ g1 so1 h1 => ?_⟩
  cases c with
  | true => exact ⟨φ1, ρ, S1, eo.grow g1, so1, h1⟩
  | false => exact ⟨φ1, ρ, S1, eo.grow g1, so1, h1⟩
theorem rd_andV {a b : EM} {Q : VK} (h : rdE w K mg W (mAndV a b) σ H Q) : tAndT K (rdE w K mg W a) (rdE w K mg W b) σ H Q := by
  obtain ⟨φ, ρ, S, eo, so, h⟩ := h
  refine ⟨φ, ρ, S, eo, so, (EndR.bind h).imp fun r φ1 S1 H1 _ g1 so1 h1 v r1 => ?_⟩
  split at h1
  · rename_i x' q
    split at h1
    · rename_i q2
      refine ⟨true, (r1.rd so1 q).tru q2, ?_⟩
      rw [if_pos rfl]
      exact ⟨φ1, ρ, S1, eo.grow g1, so1, h1⟩
    · rename_i q2
      refine ⟨false, (r1.rd so1 q).tru q2, ?_⟩
      rw [if_neg Bool.false_ne_true]
      exact h1.now so1 v r1
    · exact h1.elim
  · exact h1.elim
theorem rd_orV {a b : EM} {Q : VK} (h : rdE w K mg W (mOrV a b) σ H Q) : tOrT K (rdE w K mg W a) (rdE w K mg W b) σ H Q := by
  obtain ⟨φ, ρ, S, eo, so, h⟩ := h
  refine ⟨φ, ρ, S, eo, so, (EndR.bind h).imp fun r φ1 S1 H1 _ g1 so1 h1 v r1 => ?_⟩
  split at h1
  · rename_i x' q
    split at h1
    · rename_i q2
      refine ⟨true, (r1.rd so1 q).tru q2, ?_⟩
      rw [if_pos rfl]
      exact h1.now so1 v r1
    · rename_i q2
      refine ⟨false, (r1.rd so1 q).tru q2, ?_⟩
      rw [if_neg Bool.false_ne_true]
      exact ⟨φ1, ρ, S1, eo.grow g1, so1, h1⟩
    · exact h1.elim
  · exact h1.elim
theorem rd_notV {a : EM} {Q : VK} (h : rdE w K mg W (mNotV a) σ H Q) : tNotT K (rdE w K mg W a) σ H Q := by
  obtain ⟨φ, ρ, S, eo, so, h⟩ := h
  refine ⟨φ, ρ, S, eo, so, (EndR.bind h).imp fun r φ1 S1 H1 _ g1 so1 h1 v r1 => ?_⟩
  split at h1
  · rename_i x' q
    split at h1
    · rename_i k q2
      exact ⟨k, (r1.rd so1 q).tru q2, h1.now so1 _ (.bl _)⟩
    · exact h1.elim
  · exact h1.elim
theorem rd_chain {g g' : D → D → Option D} {a b c : EM} {Q : VK} (h : rdE w K mg W (mChain g g' a b c) σ H Q) : tChain (opRd K g) (opRd K g') (rdE w K mg W a) (rdE w K mg W b) (rdE w K mg W c) σ H Q := by
  obtain ⟨φ, ρ, S, eo, so, h⟩ := h
  refine ⟨φ, ρ, S, eo, so, (EndR.bind h).imp fun x φ1 S1 H1 _ g1 so1 h1 v1 r1 => ?_⟩
  refine ⟨φ1, ρ, S1, eo.grow g1, so1, (EndR.bind h1).imp fun y φ2 S2 H2 _ g2 so2 h2 v2 r2 => ?_⟩
  split at h2
  · rename_i x' y' q1 q2
    split at h2
    · rename_i q3
      refine ⟨x', y', .bool true, (r1.grow g2).rd so2 q1, r2.rd so2 q2, q3, fun v H' s d => ?_⟩
      cases d
      refine ⟨true, rfl, ?_⟩
      rw [if_pos rfl]
      have gs : Grow φ2 H2 φ2 H' := Grow.same s
      refine ⟨φ2, ρ, S2, (eo.grow (g1.trans g2)).grow gs, so2.same s, ?_⟩
      have h2' : EndR w K mg W φ2 H' σ (fun r φ' _ H'' => ∀ v, RelR K φ' H'' v r → Q v H'') _ := EndR.later gs h2
      refine (EndR.bind h2').imp fun z φ3 S3 H3 _ g3 so3 h3 v3 r3 => ?_
      split at h3
      · rename_i y'' z' q4 q5
        split at h3
        · rename_i k q6
          exact ⟨y'', z', k, ((r2.grow gs).grow g3).rd so3 q4, r3.rd so3 q5, q6, fun v H' s d => h3 φ3 H' (Grow.same s) (so3.same s) v d⟩
        · exact h3.elim
      · exact h3.elim
    · rename_i q3
      refine ⟨x', y', .bool false, (r1.grow g2).rd so2 q1, r2.rd so2 q2, q3, fun v H' s d => ?_⟩
      cases d
      refine ⟨false, rfl, ?_⟩
      rw [if_neg Bool.false_ne_true]
      exact h2 φ2 H' (Grow.same s) (so2.same s) _ (.bl _)
    · exact h2.elim
  · exact h2.elim
end
end Pi

set_option Elab.async false
set_option linter.all false
set_option maxRecDepth 100000
/-! Pi3: wrappers of expressions, new lists, iterables, targets, comprehensions. -/
namespace Pi
open PySem PySem.Spec PyProof.Rows L2

abbrev IW (X : Cx) (W : WX) (e : Expr) (m : TM) : Prop := PW X e (rdT X.w X.K X.mg W m)
section
variable {X : Cx} {W : WX} {a b c : Expr} {ma mb mc : EM} {pos : Pos} {es rest : List Expr} {am : AM}
theorem i_var (i : Nat) {x : Str} (hN : X.N[i]? = some x := by rfl) (hv : Vis X.env.scope x := by first | exact Or.inl rfl | exact Or.inr (Or.inl rfl) | exact Or.inr (Or.inr rfl)) (hd : (x == ("__debug__" : Str)) = false := by decide)
    (hcd : (x == ("__classdict__" : Str)) = false := by decide) : IE X W (.Name x pos) (mVar i) := PE.imp (pe_var hN hv hd hcd) fun _ _ _ h => rd_var h
theorem rd_const {K : PySem.W.Frag} {mg : Str → Option Value} {x : D} {v : V} (hv : ∀ H, Df K H v x) {σ : L2.St} {H : Hp} {Q : VK} (h : rdE w K mg W (mD x) σ H Q) : tC v σ H Q := by
  obtain ⟨φ, ρ, S, eo, so, h⟩ := h
  exact EndR.now so h v (hv H)
theorem i_int {i : Int} {j} : IE X W (.Constant (.int i) j pos) (mD (.int i)) := PE.imp pe_int fun _ _ _ h => rd_const (fun _ => .int i) h
theorem i_bl {k : Bool} {j} : IE X W (.Constant (.bool k) j pos) (mD (.bool k)) := PE.imp pe_bl fun _ _ _ h => rd_const (fun _ => .bl k) h
theorem i_non {j} : IE X W (.Constant .none j pos) (mD .none) := PE.imp pe_non fun _ _ _ h => rd_const (fun _ => .non) h
theorem i_str {x : String} {j} : IE X W (.Constant (.str x) j pos) (mD (.str x)) := PE.imp pe_str fun _ _ _ h => rd_const (fun _ => .str x) h
/-- a module's constant -/
theorem i_glob {x : Str} {v : V} {u : Value} {d : D} (hm : X.mg x = some u) (r : RelV v u) (hv : ∀ H, Df X.K H v d) (hg : Gl X x := by rfl) (hd : (x == ("__debug__" : Str)) = false := by decide) : IE X W (.Name x pos) (mD d) :=
  PE.imp (pe_glob hg hm r hd) fun _ _ _ h => rd_const hv h
theorem i_op2 {op : Operator} {g : D → D → Option D} (ho : OpR X (binaryOp op) (opRd X.K g)) (ha : IE X W a ma) (hb : IE X W b mb) : IE X W (.BinOp a op b pos) (mOp2 g ma mb) :=
  PE.imp (pe_op ho ha hb) fun _ _ _ h => rd_op2 h
theorem i_op2L {op : Operator} {g : D → D → Option (List D)} (ho : OpR X (binaryOp op) (opRdL X.K g)) (ha : IE X W a ma) (hb : IE X W b mb) : IN X W (.BinOp a op b pos) (mOp2L g ma mb) :=
  PE.imp (pe_op ho ha hb) fun _ _ _ h => rd_op2L h
theorem rd_op1 {K : PySem.W.Frag} {mg : Str → Option Value} {g : D → Option D} {m : EM} {σ : L2.St} {H : Hp} {Q : VK} (h : rdE w K mg W (mOp1 g m) σ H Q) :
    rdE w K mg W m σ H (fun x H1 => ∃ d z, Dn K H1 x d ∧ g d = some z ∧ ∀ v H', L2.Same H1 H' → Df K H' v z → Q v H') := by
  obtain ⟨φ, ρ, S, eo, so, h⟩ := h
  refine ⟨φ, ρ, S, eo, so, (EndR.bind h).imp fun x φ1 S1 H1 _ g1 so1 h1 v1 r1 => ?_⟩
  split at h1
  · rename_i x' q1
    split at h1
    · rename_i z q3
      exact ⟨x', z, r1.rd so1 q1, q3, fun v H' s d => h1 φ1 H' (Grow.same s) (so1.same s) v d⟩
    · exact h1.elim
  · exact h1.elim
theorem i_neg (ha : IE X W a ma) : IE X W (.UnaryOp .USub a pos) (mOp1 (fun d => match d with | .int i => some (.int (-i)) | _ => none) ma) :=
  PE.imp (pe_un un_neg ha) fun σ H Q h => by
    obtain ⟨φ, ρ, S, eo, so, h⟩ := rd_op1 h
    refine ⟨φ, ρ, S, eo, so, h.imp fun x φ1 S1 H1 _ g1 so1 h1 v r => ?_⟩
    obtain ⟨d, z, dn, e, q⟩ := h1 v r
    split at e
    · cases dn.int_eq; cases e; exact ⟨_, rfl, q _ H1 (L2.Same.refl _) (.int _)⟩
    · cases e
theorem i_cmp {op : CmpOp} {g : D → D → Option D} (ho : OpR X (compareOp op) (opRd X.K g)) (ha : IE X W a ma) (hb : IE X W b mb) (hm : behindInMarks op b = false) : IE X W (.Compare a [op] [b] pos) (mOp2 g ma mb) :=
  PE.imp (pe_cmpR ho ha hb hm) fun _ _ _ h => rd_op2 h
theorem i_cmpT {op : CmpOp} {g : D → D → Option D} (ho : OpR X (compareOp op) (opRd X.K g)) (ha : IE X W a ma) (hb : IE X W b mb) (hm : behindInMarks op b = false) : IT X W (.Compare a [op] [b] pos) (mB (mOp2 g ma mb)) :=
  PT.imp (pt_cmpR ho ha hb hm) fun _ _ _ h => rd_op2 (rd_mB h)
theorem i_chain {op op' : CmpOp} {g g' : D → D → Option D} (ho : OpR X (compareOp op) (opRd X.K g)) (ho' : OpR X (compareOp op') (opRd X.K g')) (ha : IE X W a ma) (hb : IE X W b mb) (hc : IE X W c mc)
    (hm : lastMarks [op, op'] [b, c] = false := by with_unfolding_all rfl) : IE X W (.Compare a [op, op'] [b, c] pos) (mChain g g' ma mb mc) := PE.imp (pe_chain ho ho' ha hb hc hm) fun _ _ _ h => rd_chain h
theorem i_chainT {op op' : CmpOp} {g g' : D → D → Option D} (ho : OpR X (compareOp op) (opRd X.K g)) (ho' : OpR X (compareOp op') (opRd X.K g')) (ha : IE X W a ma) (hb : IE X W b mb) (hc : IE X W c mc)
    (hm : lastMarks [op, op'] [b, c] = false := by with_unfolding_all rfl) : IT X W (.Compare a [op, op'] [b, c] pos) (mB (mChain g g' ma mb mc)) := PT.imp (pt_chain ho ho' ha hb hc hm) fun _ _ _ h => rd_chain (rd_mB h)
theorem i_tru (ha : IE X W a ma) (he : ∀ whole, isTrue a X.env whole = (do let v ← whole; standAt a.pos; holding [v] (truthy v)) := by intro _; rfl) : IT X W a (mTruth ma) :=
  PT.imp (pt_truth ha he) fun _ _ _ h => rd_truth h
variable {ta tb : TM}
theorem i_notT (ha : IT X W a ta) : IT X W (.UnaryOp .Not a pos) (mNotT ta) := PT.imp (pt_not ha) fun _ _ _ h => rd_not h
theorem i_and1 (ha : IT X W a ta) : IW X W (.BoolOp .And [a] pos) ta := pw_and1 ha
theorem i_or1 (ha : IT X W a ta) : IW X W (.BoolOp .Or [a] pos) ta := pw_or1 ha
theorem i_andT (ha : IT X W a ta) (hb : IW X W (.BoolOp .And (b :: rest) pos) tb) : IW X W (.BoolOp .And (a :: b :: rest) pos) (mAndT ta tb) := PW.imp (pw_and ha hb) fun _ _ _ h => rd_and h
theorem i_orT (ha : IT X W a ta) (hb : IW X W (.BoolOp .Or (b :: rest) pos) tb) : IW X W (.BoolOp .Or (a :: b :: rest) pos) (mOrT ta tb) := PW.imp (pw_or ha hb) fun _ _ _ h => rd_or h
theorem i_bt {m : TM} (h : IW X W a m) : IT X W a m := PW.pt h
theorem i_ifE (hc : IT X W c ta) (ha : IE X W a ma) (hb : IE X W b mb) : IE X W (.IfExp c a b pos) (mIfE ta ma mb) := PE.imp (pe_ifExp hc ha hb) fun _ _ _ h => rd_ifE h
theorem i_one {op} (ha : IE X W a ma) : IE X W (.BoolOp op [a] pos) ma := pe_one ha
theorem i_andV (ha : IE X W a ma) (hb : IE X W (.BoolOp .And (b :: rest) pos) mb) : IE X W (.BoolOp .And (a :: b :: rest) pos) (mAndV ma mb) := PE.imp (pe_andT ha hb) fun _ _ _ h => rd_andV h
theorem i_orV (ha : IE X W a ma) (hb : IE X W (.BoolOp .Or (b :: rest) pos) mb) : IE X W (.BoolOp .Or (a :: b :: rest) pos) (mOrV ma mb) := PE.imp (pe_orT ha hb) fun _ _ _ h => rd_orV h
theorem i_notV (ha : IE X W a ma) : IE X W (.UnaryOp .Not a pos) (mNotV ma) := PE.imp (pe_notT ha) fun _ _ _ h => rd_notV h
theorem i_nil : IA X W [] mNil := PA.imp pa_nil fun _ _ _ h => rd_nil h
theorem i_cons (ha : IE X W a ma) (hr : IA X W es am) (hs : starEach (a :: es) X.env = (false, eval a X.env) :: starEach es X.env := by rfl) : IA X W (a :: es) (mCons ma am) := PA.imp (pa_cons ha hr hs) fun _ _ _ h => rd_cons h
theorem i_tup {x1} (h : IA X W es am) : IE X W (.Tuple es x1 pos) (mTup am) := PE.imp (pe_tupF h) fun _ _ _ h => rd_tup h
theorem i_lst (h : IA X W es am) : IN X W (.List es pos) (mDisp am) := PE.imp (pe_lst h) fun _ _ _ h => rd_disp h
variable {x : Str} {p : Pos} {e : Expr} {id T : String}
theorem i_cb {g : List D → Option D} (hc : CallR X (.builtin id) (cbRd X.K g)) (hm : X.mg x = none) (hv : bootBuiltins x = some (.builtin id)) (ha : IA X W (e :: es) am) (hg : Gl X x := by rfl) (hn : x ≠ "__name__" := by decide) (hdb : (x == ("__debug__" : Str)) = false := by decide)
    (he : starEach (e :: es) X.env = (false, eval e X.env) :: starEach es X.env := by rfl) (hpl : (backTo pos (starEach es X.env)).any (·.1) = false := by rfl) : IE X W (.Call (.Name x p) (e :: es) [] pos) (mCB g am) :=
  PE.imp (pe_callB hc hg hm hv ha hn hdb he hpl) fun _ _ _ h => rd_cb h
theorem i_cbL {g : List D → Option (List D)} (hc : CallR X (.builtin id) (cbRdL X.K g)) (hm : X.mg x = none) (hv : bootBuiltins x = some (.builtin id)) (ha : IA X W (e :: es) am) (hg : Gl X x := by rfl) (hn : x ≠ "__name__" := by decide) (hdb : (x == ("__debug__" : Str)) = false := by decide)
    (he : starEach (e :: es) X.env = (false, eval e X.env) :: starEach es X.env := by rfl) (hpl : (backTo pos (starEach es X.env)).any (·.1) = false := by rfl) : IN X W (.Call (.Name x p) (e :: es) [] pos) (mCBL g am) :=
  PE.imp (pe_callB hc hg hm hv ha hn hdb he hpl) fun _ _ _ h => rd_cbL h
theorem i_ct {g : List D → Option D} (hc : CallR X (.type T) (cbRd X.K g)) (hm : X.mg x = none) (hv : bootBuiltins x = some (.type T)) (ha : IA X W (e :: es) am) (hg : Gl X x := by rfl) (hn : x ≠ "__name__" := by decide) (hdb : (x == ("__debug__" : Str)) = false := by decide)
    (he : starEach (e :: es) X.env = (false, eval e X.env) :: starEach es X.env := by rfl) (hpl : (backTo pos (starEach es X.env)).any (·.1) = false := by rfl) : IE X W (.Call (.Name x p) (e :: es) [] pos) (mCB g am) :=
  PE.imp (pe_callTy hc hg hm hv ha hn hdb he hpl) fun _ _ _ h => rd_cb h
theorem i_ctL {g : List D → Option (List D)} (hc : CallR X (.type T) (cbRdL X.K g)) (hm : X.mg x = none) (hv : bootBuiltins x = some (.type T)) (ha : IA X W (e :: es) am) (hg : Gl X x := by rfl) (hn : x ≠ "__name__" := by decide) (hdb : (x == ("__debug__" : Str)) = false := by decide)
    (he : starEach (e :: es) X.env = (false, eval e X.env) :: starEach es X.env := by rfl) (hpl : (backTo pos (starEach es X.env)).any (·.1) = false := by rfl) : IN X W (.Call (.Name x p) (e :: es) [] pos) (mCBL g am) :=
  PE.imp (pe_callTy hc hg hm hv ha hn hdb he hpl) fun _ _ _ h => rd_cbL h
/-- a subscript -/
theorem i_ix {g : D → D → Option D} (hr : IxR X (opRd X.K g)) (ha : IE X W a ma) (hb : IE X W b mb) (hs : PlainIx b := by intro _ _; rfl) : IE X W (.Subscript a b pos) (mOp2 g ma mb) := PE.imp (pe_ix hr ha hb hs) fun _ _ _ h => rd_op2 h
end

/-! ### a new list is frozen, or is a cell -/
theorem _root_.L2.Inv.freeze {X : Cx} {pins : List (Addr × Obj)} {σ : L2.St} {H : Hp} {s : Shared} {a : Addr} {xs : List V} (I : Inv X pins σ H s) (h : H a = some (.lst xs)) : ∃ o, Inv X pins σ (upd H a (.frz o (.lst xs))) s := by
  have q := I.hok a _ h
  obtain ⟨z, its, n, r, e⟩ := id q
  refine ⟨{ cls := .type "list", data := .seq its.toArray n }, ?_⟩
  have hok : HOk X.prog X.w (upd H a (.frz { cls := .type "list", data := .seq its.toArray n } (.lst xs))) s.heap := fun b u e' => by
    by_cases hb : b = a
    · subst hb
      rw [upd_same] at e'; cases e'
      exact ⟨e, z, its, n, r, e⟩
    · rw [upd_ne hb] at e'
      refine (I.hok b u e').stay (fun _ _ _ q => q) (fun c q => ?_) fun c ys q => ?_
      · rw [upd_ne (ne_of q h (by intro z; cases z))]; exact q
      · rw [upd_ne (ne_of q h (by intro z; cases z))]; exact q
  have hne : ∀ c, H c = none → c ≠ a := fun c n z => by rw [z, h] at n; cases n
  have := I.un (t' := s.toks) (h' := s.heap) (H' := upd H a (.frz { cls := .type "list", data := .seq its.toArray n } (.lst xs)))
    ⟨fun _ _ q _ _ _ => q, fun _ o q _ _ _ => ⟨o.slots, q⟩, fun b o _ n _ => by rw [upd_ne (hne b n)]; exact n, fun b o q _ => ⟨o, q⟩, fun b ys q => by rw [upd_ne (ne_of q h (by intro z; cases z))]; exact q,
      fun b o u q => by rw [upd_ne (ne_of q h (by intro z; cases z))]; exact q, fun b ps q => ⟨#[], by rw [upd_ne (ne_of q h (by intro z; cases z)), q]; simp⟩⟩ hok
  exact this
section
variable {X : Cx} {e : Expr} {W : WX} {l : IM}
theorem pe_frz {t : TE} (h : PE X e t) : PE X e (fun σ H Q => t σ H fun v H1 => ∃ a xs, v = .ref a ∧ H1 a = some (.lst xs) ∧ ∀ o, Q v (upd H1 a (.frz o (.lst xs)))) := by
  refine ⟨fun pins s σ H Q I q => thn (h.run pins s σ H _ I q) fun u s1 ⟨v, H1, I1, r, a, xs, e, ea, q⟩ => ?_⟩
  obtain ⟨o, I2⟩ := I1.freeze ea
  exact ⟨v, _, I2, r, q o⟩
theorem Grow.frz {φ φ' : List Addr} {H H' : Hp} (g : Grow φ H φ' H') {p : Addr} {o : HO} (n : H p = Option.none) : Grow φ H φ' (upd H' p o) :=
  ⟨g.pre, fun a o e q => by rw [upd_ne (ne_of_none e n)]; exact g.keep a o e q, g.new⟩
theorem upd_stab {H : Hp} {p : Addr} {o u : HO} (e : H p = some o) (s : stable o = false) : Stab H (upd H p u) := fun a o' st ea => by
  rw [upd_ne (fun z => by rw [z, e] at ea; cases ea; rw [s] at st; cases st)]; exact ea
theorem StOk.upd {K : PySem.W.Frag} {φ : List Addr} {H : Hp} {S : Store} (h : StOk w K φ H S) {p : Addr} {o u : HO} (e : H p = some o) (s : stable o = false) (hp : p ∉ φ) : StOk w K φ (upd H p u) S :=
  h.keep (upd_stab e s) fun a ha o' ea => by
    have hne : a ≠ p := fun z => hp (z ▸ ha)
    rw [upd_ne hne]; exact ea
theorem rd_frz {K : PySem.W.Frag} {mg : Str → Option Value} {σ : L2.St} {H : Hp} {Q : VK} (h : rdE w K mg W (mFrz l) σ H Q) :
    rdN w K mg W l σ H (fun v H1 => ∃ a xs, v = .ref a ∧ H1 a = some (.lst xs) ∧ ∀ o, Q v (upd H1 a (.frz o (.lst xs)))) := by
  obtain ⟨φ, ρ, S, eo, so, h⟩ := h
  refine ⟨φ, ρ, S, eo, so, ?_⟩
  unfold mFrz at h
  cases q : l ρ S with
  | ok ds S1 =>
    rw [q] at h
    exact fun φ1 H1 g1 so1 p vs n np ep df => ⟨p, vs, rfl, ep, fun o => h φ1 _ (g1.frz n) (so1.upd ep rfl np) _ (.lst (.inl ⟨o, upd_same⟩) (DfAll.mono (upd_stab ep rfl) df))⟩
  | ex x S1 => rw [q] at h; exact h
  | no => rw [q] at h; exact h
theorem i_frz (h : IN X W e l) : IE X W e (mFrz l) := PE.imp (pe_frz h) fun _ _ _ h => rd_frz h
theorem StOk.more {K : PySem.W.Frag} {φ : List Addr} {H : Hp} {S : Store} (h : StOk w K φ H S) {p : Addr} {vs : List V} {ds : List D} (ep : H p = some (.lst vs)) (np : p ∉ φ) (df : DfAll K H vs ds) : StOk w K (φ ++ [p]) H (S ++ [.lst ds]) where
  len := by simp [h.len]
  nd := List.nodup_append.mpr ⟨h.nd, by simp, fun a ha b hb => by rw [List.mem_singleton.mp hb]; exact fun z => np (z ▸ ha)⟩
  there := fun a ha => by
    rcases List.mem_append.mp ha with ha | ha
    · exact h.there a ha
    · rw [List.mem_singleton.mp ha]; exact ⟨_, ep⟩
  cell := fun i a c e1 e2 => by
    by_cases hi : i < φ.length
    · rw [List.getElem?_append_left hi] at e1
      rw [List.getElem?_append_left (by rw [← h.len]; exact hi)] at e2
      exact (h.cell i a c e1 e2).mono (List.prefix_append _ _) (fun _ _ _ e => e) fun _ e => e
    · have hi' : i = φ.length := by
        have := (List.getElem?_eq_some_iff.mp e1).1
        simp at this; omega
      subst hi'
      rw [List.getElem?_append_right (Nat.le_refl _), Nat.sub_self] at e1
      rw [h.len, List.getElem?_append_right (Nat.le_refl _), Nat.sub_self] at e2
      simp at e1 e2
      subst e1; subst e2
      exact ⟨vs, ep, df⟩
theorem rd_new {K : PySem.W.Frag} {mg : Str → Option Value} {σ : L2.St} {H : Hp} {Q : VK} (h : rdE w K mg W (mNew l) σ H Q) : rdN w K mg W l σ H Q := by
  obtain ⟨φ, ρ, S, eo, so, h⟩ := h
  refine ⟨φ, ρ, S, eo, so, ?_⟩
  unfold mNew at h
  cases q : l ρ S with
  | ok ds S1 =>
    rw [q] at h
    refine fun φ1 H1 g1 so1 p vs n np ep df => h (φ1 ++ [p]) H1 ⟨g1.pre.trans (List.prefix_append _ _), g1.keep, fun a ha => ?_⟩ (so1.more ep np df) _ ⟨p, ?_, rfl⟩
    · rcases List.mem_append.mp ha with ha | ha
      · exact g1.new a ha
      · rw [List.mem_singleton.mp ha]; exact .inr n
    · rw [← so1.len, List.getElem?_append_right (Nat.le_refl _), Nat.sub_self]; rfl
  | ex x S1 => rw [q] at h; exact h
  | no => rw [q] at h; exact h
theorem i_new (h : IN X W e l) : IE X W e (mNew l) := PE.imp h fun _ _ _ h => rd_new h
end

/-! ### iterables -/
def ItOk (k : Bool) (K : PySem.W.Frag) (H0 : Hp) (ds : List D) (J : It) : Prop :=
  ∀ (H : Hp) (i : Nat), Stab H0 H → (∀ d, ds[i]? = some d → J.go i H ∧ ∀ x H', J.yld i H x H' → L2.Same H H' ∧ RlD k K H' x d) ∧ (ds.length ≤ i → J.stop i H)
def rdI (k : Bool) (w : World) (K : PySem.W.Frag) (mg : Str → Option Value) (W : WX) (m : IM) : TI := fun σ H R => ∃ φ ρ S, EnvOk K φ H σ ρ ∧ StOk w K φ H S ∧
  EndR w K mg W φ H σ (fun ds _ _ H' => ∀ J H'', L2.Same H' H'' → ItOk k K H'' ds J → R J H'') (m ρ S)
abbrev IIk (k : Bool) (X : Cx) (tg : Expr) (W : WX) (iter : Expr) (m : IM) : Prop := PI X tg iter (rdI k X.w X.K X.mg W m)
/-- .. whose items are plain data -/
abbrev II (X : Cx) (tg : Expr) (W : WX) (iter : Expr) (m : IM) : Prop := IIk true X tg W iter m
/-- .. whose items may be tuples of whatever make -/
abbrev IIw (X : Cx) (tg : Expr) (W : WX) (iter : Expr) (m : IM) : Prop := IIk false X tg W iter m
theorem PI.imp {X : Cx} {tg iter : Expr} {w w' : TI} (h : PI X tg iter w) (f : ∀ σ H R, w' σ H R → w σ H R) : PI X tg iter w' := ⟨fun pins s σ H R I q => h.run pins s σ H R I (f σ H R q)⟩
theorem PI.or {X : Cx} {tg iter : Expr} {w w' : TI} (h : PI X tg iter w) (h' : PI X tg iter w') : PI X tg iter (fun σ H R => w σ H R ∨ w' σ H R) := ⟨fun pins s σ H R I q => q.elim (h.run pins s σ H R I) (h'.run pins s σ H R I)⟩
theorem it_l {K : PySem.W.Frag} {H0 : Hp} {a : Addr} {xs : List V} {ds : List D} (h : FzL K H0 a xs) (df : DfAll K H0 xs ds) : ItOk true K H0 ds (Itl K a) := fun H i st => by
  refine ⟨fun d e => ?_, fun hi => ⟨xs, (st.fzL h).sq, by rw [df.length]; exact hi⟩⟩
  obtain ⟨v, e1, dv⟩ := df.get e
  refine ⟨⟨xs, v, (st.fzL h).sq, e1⟩, fun x H' y => ?_⟩
  obtain ⟨rfl, q⟩ := y
  have := q xs (st.fzL h).sq
  rw [e1] at this; cases this
  exact ⟨L2.Same.refl _, Df.mono st dv⟩
theorem it_t {K : PySem.W.Frag} {H0 : Hp} {a : Addr} {xs : List V} {ds : List D} (h : SqT K H0 a xs) (df : DfAll K H0 xs ds) : ItOk true K H0 ds (Itt K a) := fun H i st => by
  refine ⟨fun d e => ?_, fun hi => ⟨xs, st.sqT h, by rw [df.length]; exact hi⟩⟩
  obtain ⟨v, e1, dv⟩ := df.get e
  refine ⟨⟨xs, v, st.sqT h, e1⟩, fun x H' y => ?_⟩
  obtain ⟨rfl, q⟩ := y
  have := q xs (st.sqT h)
  rw [e1] at this; cases this
  exact ⟨L2.Same.refl _, Df.mono st dv⟩
theorem rangeD_get : ∀ (n i : Nat) (lo : Int), i < n → (rangeD lo n)[i]? = some (.int (lo + i))
  | n + 1, 0, lo, _ => by simp [rangeD]
  | n + 1, i + 1, lo, h => by
    have := rangeD_get n i (lo + 1) (by omega)
    simp only [rangeD, List.getElem?_cons_succ, this]
    congr 2; omega
theorem rangeD_len : ∀ (n : Nat) (lo : Int), (rangeD lo n).length = n
  | 0, _ => rfl
  | n + 1, lo => by simp [rangeD, rangeD_len n]
theorem it_r {K : PySem.W.Frag} {H0 : Hp} {lo : Int} {n : Nat} : ItOk true K H0 (rangeD lo n) (Itr lo n) := fun H i st => by
  refine ⟨fun d e => ?_, fun hi => by rw [rangeD_len] at hi; exact hi⟩
  have hi : i < n := by have := (List.getElem?_eq_some_iff.mp e).1; rw [rangeD_len] at this; exact this
  rw [rangeD_get n i lo hi] at e; cases e
  refine ⟨hi, fun x H' y => ?_⟩
  obtain ⟨rfl, rfl⟩ := y
  exact ⟨L2.Same.refl _, .int _⟩
section
variable {X : Cx} {tg e e2 : Expr} {W : WX} {m : EM} {am : AM} {p pos : Pos}
theorem rd_itS {K : PySem.W.Frag} {mg : Str → Option Value} {σ : L2.St} {H : Hp} {R : It → Hp → Prop} (h : rdI true w K mg W (mItS m) σ H R) : iList K (rdE w K mg W m) σ H R ∨ iTup K (rdE w K mg W m) σ H R := by
  obtain ⟨φ, ρ, S, eo, so, h⟩ := h
  unfold mItS at h
  cases q : m ρ S with
  | ok r S1 =>
    rw [q] at h
    simp only [Res.bind_ok] at h
    split at h
    · rename_i x' q1
      cases x' with
      | list ds =>
        left
        refine ⟨φ, ρ, S, eo, so, ?_⟩
        rw [q]
        intro φ1 H1 g1 so1 v r1
        obtain ⟨a, xs, rfl, hf, df⟩ := (r1.plain q1).list_at
        refine ⟨a, rfl, ⟨xs, hf.sq⟩, h φ1 H1 g1 so1 _ _ (L2.Same.refl _) (it_l hf df)⟩
      | tuple ds =>
        right
        refine ⟨φ, ρ, S, eo, so, ?_⟩
        rw [q]
        intro φ1 H1 g1 so1 v r1
        obtain ⟨a, xs, rfl, hf, df⟩ := (r1.plain q1).tup_at
        exact ⟨a, rfl, ⟨xs, hf.sq⟩, h φ1 H1 g1 so1 _ _ (L2.Same.refl _) (it_t hf.sq df)⟩
      | _ => exact h.elim
    · exact h.elim
  | ex x S1 =>
    left
    refine ⟨φ, ρ, S, eo, so, ?_⟩
    rw [q] at h ⊢
    exact h
  | no => rw [q] at h; exact h.elim
end
end Pi

set_option Elab.async false
set_option linter.all false
set_option maxRecDepth 100000
/-! Pi4: iterables by name, targets, comprehensions. -/
namespace Pi
open PySem PySem.Spec PyProof.Rows L2

section
variable {X : Cx} {tg e e2 e3 : Expr} {W : WX} {m : EM} {am : AM} {p pos : Pos}
theorem i_itS (h : IE X W e m) : II X tg W e (mItS m) := PI.imp (PI.or (pi_list h) (pi_tup h)) fun _ _ _ h => rd_itS h
theorem rd_itA {kk : Bool} {K : PySem.W.Frag} {mg : Str → Option Value} {g : List D → Option (List D)} {σ : L2.St} {H : Hp} {R : It → Hp → Prop} (h : rdI kk w K mg W (mItA g am) σ H R) :
    rdA w K mg W am σ H (fun vs H1 => ∃ ds zs, DfAll K H1 vs ds ∧ g ds = some zs ∧ ∀ J H'', L2.Same H1 H'' → ItOk kk K H'' zs J → R J H'') := by
  obtain ⟨φ, ρ, S, eo, so, h⟩ := h
  refine ⟨φ, ρ, S, eo, so, (EndR.bind h).imp fun xs φ1 S1 H1 _ g1 so1 h1 vs r1 => ?_⟩
  split at h1
  · rename_i ds q
    unfold Res.opt at h1
    split at h1
    · rename_i zs q3
      exact ⟨ds, zs, all_df r1 q, q3, h1.now so1⟩
    · exact h1.elim
  · exact h1.elim
theorem rdA.imp {K : PySem.W.Frag} {mg : Str → Option Value} {σ : L2.St} {H : Hp} {Q Q' : List V → Hp → Prop} (h : rdA w K mg W am σ H Q) (f : ∀ vs H', Q vs H' → Q' vs H') : rdA w K mg W am σ H Q' := by
  obtain ⟨φ, ρ, S, eo, so, h⟩ := h
  exact ⟨φ, ρ, S, eo, so, h.imp fun xs φ1 S1 H1 _ g1 so1 h1 vs r1 => f _ _ (h1 vs r1)⟩
theorem rdE.imp {K : PySem.W.Frag} {mg : Str → Option Value} {σ : L2.St} {H : Hp} {Q Q' : VK} (h : rdE w K mg W m σ H Q) (f : ∀ v H', Q v H' → Q' v H') : rdE w K mg W m σ H Q' := by
  obtain ⟨φ, ρ, S, eo, so, h⟩ := h
  exact ⟨φ, ρ, S, eo, so, h.imp fun xs φ1 S1 H1 _ g1 so1 h1 vs r1 => f _ _ (h1 vs r1)⟩
theorem okR_b {i : Int} (h : okR i = true) : -(2 ^ 62) ≤ i ∧ i < 2 ^ 62 := by
  unfold okR at h
  rw [Bool.and_eq_true] at h
  exact ⟨of_decide_eq_true h.1, of_decide_eq_true h.2⟩
theorem i_range1 (hm : X.mg "range" = none) (ha : IA X W [e] am) (hg : Gl X "range" := by rfl) (hs : starEach [e] X.env = [(false, eval e X.env)] := by rfl) : II X tg W (.Call (.Name "range" p) [e] [] pos) (mItA range1 am) :=
  PI.imp (pi_range1 hg hm ha hs) fun σ H R h => by
    refine rdA.imp (rd_itA h) fun vs H1 ⟨ds, zs, df, e, q⟩ => ?_
    unfold range1 at e
    split at e
    · split at e
      · rename_i j hj
        cases e
        cases df with | cons h1 h2 => cases h1; cases h2; exact ⟨j, rfl, (okR_b hj).1, (okR_b hj).2, q _ _ (L2.Same.refl _) it_r⟩
      · cases e
    · cases e
theorem i_range2 (hm : X.mg "range" = none) (ha : IA X W [e, e2] am) (hg : Gl X "range" := by rfl) (hs : starEach [e, e2] X.env = [(false, eval e X.env), (false, eval e2 X.env)] := by rfl) (hs2 : starEach [e2] X.env = [(false, eval e2 X.env)] := by rfl) :
    II X tg W (.Call (.Name "range" p) [e, e2] [] pos) (mItA range2 am) :=
  PI.imp (pi_range2 hg hm ha hs hs2) fun σ H R h => by
    refine rdA.imp (rd_itA h) fun vs H1 ⟨ds, zs, df, e, q⟩ => ?_
    unfold range2 at e
    split at e
    · split at e
      · rename_i i j hj
        cases e
        rw [Bool.and_eq_true] at hj
        cases df with | cons h1 h2 => cases h1; cases h2 with | cons h3 h4 => cases h3; cases h4; exact ⟨i, j, rfl, ⟨(okR_b hj.1).1, (okR_b hj.1).2, (okR_b hj.2).1, (okR_b hj.2).2⟩, q _ _ (L2.Same.refl _) it_r⟩
      · cases e
    · cases e
/-- downwards by ones -/
def downD (hi : Int) : Nat → List D
  | 0 => []
  | n + 1 => .int hi :: downD (hi - 1) n
theorem downD_get : ∀ (n i : Nat) (hi : Int), i < n → (downD hi n)[i]? = some (.int (hi - i))
  | n + 1, 0, hi, _ => by simp [downD]
  | n + 1, i + 1, hi, h => by
    have := downD_get n i (hi - 1) (by omega)
    simp only [downD, List.getElem?_cons_succ, this]
    congr 2 <;> omega
theorem downD_len : ∀ (n : Nat) (hi : Int), (downD hi n).length = n
  | 0, _ => rfl
  | n + 1, hi => by simp [downD, downD_len n]
def range3 : List D → Option (List D)
  | [.int i, .int j, .int (-1)] => if okR i && okR j then some (downD i (i - j).toNat) else none
  | _ => none
theorem it_c {K : PySem.W.Frag} {H0 : Hp} {hi : Int} {n : Nat} : ItOk true K H0 (downD hi n) (Itc hi (-1) n) := fun H i st => by
  refine ⟨fun d e => ?_, fun h => by rw [downD_len] at h; exact h⟩
  have hlt : i < n := by have := (List.getElem?_eq_some_iff.mp e).1; rw [downD_len] at this; exact this
  rw [downD_get n i hi hlt] at e; cases e
  refine ⟨hlt, fun x H' y => ?_⟩
  obtain ⟨rfl, rfl⟩ := y
  refine ⟨L2.Same.refl _, ?_⟩
  have : hi + (i : Int) * (-1) = hi - i := by omega
  rw [this]
  exact .int _
theorem i_range3 (hm : X.mg "range" = none) (ha : IA X W [e, e2, e3] am) (hg : Gl X "range" := by rfl) (hs : starEach [e, e2, e3] X.env = (false, eval e X.env) :: starEach [e2, e3] X.env := by rfl) (hpl : (backTo pos (starEach [e2, e3] X.env)).any (·.1) = false := by rfl) :
    II X tg W (.Call (.Name "range" p) [e, e2, e3] [] pos) (mItA range3 am) :=
  PI.imp (pi_range3 hg hm ha hs hpl) fun σ H R h => by
    refine rdA.imp (rd_itA h) fun vs H1 ⟨ds, zs, df, e, q⟩ => ?_
    unfold range3 at e
    split at e
    · split at e
      · rename_i i j hj
        cases e
        rw [Bool.and_eq_true] at hj
        cases df with
        | cons h1 h2 =>
          cases h1
          cases h2 with
          | cons h3 h4 =>
            cases h3
            cases h4 with
            | cons h5 h6 =>
              cases h5; cases h6
              exact ⟨i, j, -1, _, rfl, RgC.neg (okR_b hj.1).1 (okR_b hj.1).2 (okR_b hj.2).1 (okR_b hj.2).2, q _ _ (L2.Same.refl _) it_c⟩
      · cases e
    · cases e
theorem zipD_get : ∀ (xs ys : List D) (i : Nat) (d : D), (zipD xs ys)[i]? = some d → ∃ x y, d = .tuple [x, y] ∧ xs[i]? = some x ∧ ys[i]? = some y
  | [], _, _, _, e => by simp [zipD] at e
  | _ :: _, [], _, _, e => by simp [zipD] at e
  | x :: xs, y :: ys, 0, d, e => by simp [zipD] at e; exact ⟨x, y, e.symm, rfl, rfl⟩
  | x :: xs, y :: ys, i + 1, d, e => by
    simp only [zipD, List.getElem?_cons_succ] at e
    obtain ⟨a, b, h1, h2, h3⟩ := zipD_get xs ys i d e
    exact ⟨a, b, h1, by simpa using h2, by simpa using h3⟩
theorem zipD_len : ∀ (xs ys : List D), (zipD xs ys).length = min xs.length ys.length
  | [], _ => by simp [zipD]
  | _ :: _, [] => by simp [zipD]
  | x :: xs, y :: ys => by simp only [zipD, List.length_cons, zipD_len xs ys]; omega
theorem pair_tup {K : PySem.W.Frag} {H : Hp} {T : Addr} {x y : V} {a b : D} (hT : H T = none) (h1 : Df K H x a) (h2 : Df K H y b) : L2.Same H (upd H T (.tup [x, y])) ∧ RlD false K (upd H T (.tup [x, y])) (.ref T) (.tuple [a, b]) := by
  have s : L2.Same H (upd H T (.tup [x, y])) := fun c o e => by rw [upd_ne (ne_of_none e hT)]; exact e
  exact ⟨s, .inr ⟨T, _, _, rfl, rfl, .inl (.inl upd_same), .cons (Df.mono (Same.stab s) h1) (.cons (Df.mono (Same.stab s) h2) .nil)⟩⟩
theorem it_zl {K : PySem.W.Frag} {H0 : Hp} {a b : Addr} {xs ys : List V} {ds es : List D} (h : FzL K H0 a xs) (df : DfAll K H0 xs ds) (h' : FzL K H0 b ys) (df' : DfAll K H0 ys es) : ItOk false K H0 (zipD ds es) (Itz K a b) := fun H i st => by
  refine ⟨fun d e => ?_, fun hi => ⟨xs, ys, (st.fzL h).sq, (st.fzL h').sq, ?_⟩⟩
  · obtain ⟨x, y, rfl, e1, e2⟩ := zipD_get _ _ _ _ e
    obtain ⟨v, f1, dv⟩ := df.get e1
    obtain ⟨u, f2, du⟩ := df'.get e2
    refine ⟨⟨xs, ys, v, u, (st.fzL h).sq, (st.fzL h').sq, f1, f2⟩, fun w H' yl => ?_⟩
    obtain ⟨T, x', y', rfl, hT, rfl, q1, q2⟩ := yl
    have z1 := q1 xs (st.fzL h).sq
    have z2 := q2 ys (st.fzL h').sq
    rw [f1] at z1; cases z1
    rw [f2] at z2; cases z2
    exact pair_tup hT (Df.mono st dv) (Df.mono st du)
  · rw [zipD_len, ← df.length, ← df'.length] at hi
    omega
theorem it_zt {K : PySem.W.Frag} {H0 : Hp} {a b : Addr} {xs ys : List V} {ds es : List D} (h : SqT K H0 a xs) (df : DfAll K H0 xs ds) (h' : SqT K H0 b ys) (df' : DfAll K H0 ys es) : ItOk false K H0 (zipD ds es) (RZ.ItzT K a b) := fun H i st => by
  refine ⟨fun d e => ?_, fun hi => ⟨xs, ys, (st.sqT h), (st.sqT h'), ?_⟩⟩
  · obtain ⟨x, y, rfl, e1, e2⟩ := zipD_get _ _ _ _ e
    obtain ⟨v, f1, dv⟩ := df.get e1
    obtain ⟨u, f2, du⟩ := df'.get e2
    refine ⟨⟨xs, ys, v, u, (st.sqT h), (st.sqT h'), f1, f2⟩, fun w H' yl => ?_⟩
    obtain ⟨T, x', y', rfl, hT, rfl, q1, q2⟩ := yl
    have z1 := q1 xs (st.sqT h)
    have z2 := q2 ys (st.sqT h')
    rw [f1] at z1; cases z1
    rw [f2] at z2; cases z2
    exact pair_tup hT (Df.mono st dv) (Df.mono st du)
  · rw [zipD_len, ← df.length, ← df'.length] at hi
    omega
theorem i_zip {elts : List Expr} {kk : Nat} {tpos : Pos} (hm : X.mg "zip" = none) (ha : IA X W [e, e2] am) (hg : Gl X "zip" := by rfl) (hs : starEach [e, e2] X.env = (false, eval e X.env) :: starEach [e2] X.env := by rfl) (hpl : (backTo pos (starEach [e2] X.env)).any (·.1) = false := by rfl) :
    IIw X (.Tuple elts kk tpos) W (.Call (.Name "zip" p) [e, e2] [] pos) (mItA zip2 am) :=
  PI.imp (RZ.pi_zipA hg hm ha hs hpl) fun σ H R h => by
    refine rdA.imp (rd_itA h) fun vs H1 ⟨ds, zs, df, e, q⟩ => ?_
    unfold zip2 at e
    split at e
    · cases df with
      | cons h1 h2 =>
        cases h2 with
        | cons h3 h4 =>
          cases h4
          cases e
          obtain ⟨p, xs, rfl, f1, d1⟩ := h1.list_at
          obtain ⟨p', ys, rfl, f2, d2⟩ := h3.list_at
          exact ⟨p, p', xs, ys, rfl, .inl ⟨f1.sq, f2.sq, q _ _ (L2.Same.refl _) (it_zl f1 d1 f2 d2)⟩⟩
    · cases df with
      | cons h1 h2 =>
        cases h2 with
        | cons h3 h4 =>
          cases h4
          cases e
          obtain ⟨p, xs, rfl, f1, d1⟩ := h1.tup_at
          obtain ⟨p', ys, rfl, f2, d2⟩ := h3.tup_at
          exact ⟨p, p', xs, ys, rfl, .inr ⟨f1.sq, f2.sq, q _ _ (L2.Same.refl _) (it_zt f1.sq d1 f2.sq d2)⟩⟩
    · cases e
end

/-! ### targets -/
def OutSame (vs : List Nat) (σ σ' : L2.St) : Prop := σ'.length = σ.length ∧ ∀ i, i ∉ vs → σ'[i]? = σ[i]?
theorem OutSame.trans {vs ws us : List Nat} {σ σ1 σ2 : L2.St} (h : OutSame vs σ σ1) (h' : OutSame ws σ1 σ2) (s1 : ∀ i ∈ vs, i ∈ us) (s2 : ∀ i ∈ ws, i ∈ us) : OutSame us σ σ2 :=
  ⟨h'.1.trans h.1, fun i hi => (h'.2 i fun z => hi (s2 i z)).trans (h.2 i fun z => hi (s1 i z))⟩
def rdG (w : World) (K : PySem.W.Frag) (g : GM) (vs : List Nat) : TG := fun v σ H Q => ∃ φ ρ S r, EnvOk K φ H σ ρ ∧ StOk w K φ H S ∧ RelR K φ H v r ∧ ∃ ρ' S', g r ρ S = some (ρ', S') ∧
  ∀ φ' σ' H', Grow φ H φ' H' → StOk w K φ' H' S' → EnvOk K φ' H' σ' ρ' → OutSame vs σ σ' → Q σ' H'
def rdGs (w : World) (K : PySem.W.Frag) (gs : List GM) (vs : List Nat) : TGs := fun us σ H Q => ∃ φ ρ S ds, EnvOk K φ H σ ρ ∧ StOk w K φ H S ∧ DfAll K H us ds ∧ ∃ ρ' S', gAll gs ds ρ S = some (ρ', S') ∧
  ∀ φ' σ' H', Grow φ H φ' H' → StOk w K φ' H' S' → EnvOk K φ' H' σ' ρ' → OutSame vs σ σ' → Q σ' H'
/-- .. for an item whose kind an iterable gives -/
def rdGk (k : Bool) (w : World) (K : PySem.W.Frag) (g : GM) (vs : List Nat) : TG := fun v σ H Q => ∃ φ ρ S d, EnvOk K φ H σ ρ ∧ StOk w K φ H S ∧ RlD k K H v d ∧ ∃ ρ' S', g (.d d) ρ S = some (ρ', S') ∧
  ∀ φ' σ' H', Grow φ H φ' H' → StOk w K φ' H' S' → EnvOk K φ' H' σ' ρ' → OutSame vs σ σ' → Q σ' H'
abbrev IGk (k : Bool) (X : Cx) (tg : Expr) (g : GM) (vs : List Nat) : Prop := PG X tg (rdGk k X.w X.K g vs)
abbrev IG (X : Cx) (tg : Expr) (g : GM) (vs : List Nat) : Prop := PG X tg (rdG X.w X.K g vs)
abbrev IGs (X : Cx) (ts : List Expr) (gs : List GM) (vs : List Nat) : Prop := PGs X ts (rdGs X.w X.K gs vs)
theorem PG.imp {X : Cx} {tg : Expr} {t t' : TG} (h : PG X tg t) (f : ∀ v σ H Q, t' v σ H Q → t v σ H Q) : PG X tg t' := ⟨fun pins s σ H v u Q I r q => h.run pins s σ H v u Q I r (f v σ H Q q)⟩
theorem PG.or {X : Cx} {tg : Expr} {t t' : TG} (h : PG X tg t) (h' : PG X tg t') : PG X tg (fun v σ H Q => t v σ H Q ∨ t' v σ H Q) := ⟨fun pins s σ H v u Q I r q => q.elim (h.run pins s σ H v u Q I r) (h'.run pins s σ H v u Q I r)⟩
theorem PGs.imp {X : Cx} {ts : List Expr} {t t' : TGs} (h : PGs X ts t) (f : ∀ v σ H Q, t' v σ H Q → t v σ H Q) : PGs X ts t' := ⟨fun pins s σ H vs us Q I r q => h.run pins s σ H vs us Q I r (f vs σ H Q q)⟩
theorem EnvOk.set {K : PySem.W.Frag} {φ : List Addr} {H : Hp} {σ : L2.St} {ρ : Env} (h : EnvOk K φ H σ ρ) {v : V} {r : R} (q : RelR K φ H v r) (i : Nat) : EnvOk K φ H (σ.set i (some v)) (ρ.set i (some r)) where
  len := by simp [h.len]
  at_ := fun j r' e => by
    by_cases hj : i = j
    · subst hj
      have hl : i < ρ.length := by have := (List.getElem?_eq_some_iff.mp e).1; simpa using this
      rw [List.getElem?_set_self hl] at e
      cases e
      exact ⟨v, List.getElem?_set_self (by rw [h.len]; exact hl), q⟩
    · rw [List.getElem?_set_ne hj] at e ⊢
      exact h.at_ j r' e
theorem OutSame.set {σ : L2.St} (i : Nat) (x : Option V) : OutSame [i] σ (σ.set i x) := ⟨by simp, fun j hj => List.getElem?_set_ne (fun z => hj (by simp [z]))⟩
section
variable {X : Cx} {pos : Pos}
theorem ig_name (i : Nat) {x : Str} (hN : X.N.Nodup) (hi : X.N[i]? = some x := by rfl) (hx : Loc X.env.scope x := by first | exact Or.inl rfl | exact Or.inr rfl) (hf : X.fn x = true ∨ X.env.scope.names.lookup x = some .local := by first | exact .inl rfl | exact .inr rfl | assumption) :
    IG X (.Name x pos) (gN i) [i] := PG.imp (pg_name hN hi hx hf) fun v σ H Q h => by
  obtain ⟨φ, ρ, S, r, eo, so, q, ρ', S', e, k⟩ := h
  cases e
  exact k φ _ H (Grow.refl _ _) so (eo.set q i) (OutSame.set i _)
theorem igs_nil : IGs X [] [] [] := PGs.imp pgs_nil fun v σ H Q h => by
  obtain ⟨φ, ρ, S, ds, eo, so, q, ρ', S', e, k⟩ := h
  cases ds with
  | nil => cases q; cases e; exact ⟨rfl, k φ _ H (Grow.refl _ _) so eo ⟨rfl, fun _ _ => rfl⟩⟩
  | cons d ds => cases e
theorem igs_cons {t : Expr} {ts : List Expr} {g : GM} {gs : List GM} {vs ws : List Nat} (h1 : IG X t g vs) (h2 : IGs X ts gs ws)
    (hs : (assignEach (t :: ts) X.env).map (·.2) = assign t X.env :: (assignEach ts X.env).map (·.2) := by rfl) : IGs X (t :: ts) (g :: gs) (vs ++ ws) := PGs.imp (pgs_cons h1 h2 hs) fun us σ H Q h => by
  obtain ⟨φ, ρ, S, ds, eo, so, q, ρ', S', e, k⟩ := h
  cases ds with
  | nil => cases e
  | cons d ds =>
    cases q with
    | cons q1 q2 =>
      unfold gAll at e
      cases e1 : g (.d d) ρ S with
      | none => rw [e1] at e; cases e
      | some z =>
        obtain ⟨ρ1, S1⟩ := z
        rw [e1] at e
        refine ⟨_, _, rfl, φ, ρ, S, .d d, eo, so, q1, ρ1, S1, e1, fun φ1 σ1 H1 g1 so1 eo1 os1 => ?_⟩
        refine ⟨φ1, ρ1, S1, ds, eo1, so1, DfAll.mono g1.stab q2, ρ', S', e, fun φ2 σ2 H2 g2 so2 eo2 os2 => ?_⟩
        exact k φ2 σ2 H2 (g1.trans g2) so2 eo2 (os1.trans os2 (fun i hi => List.mem_append_left _ hi) fun i hi => List.mem_append_right _ hi)
theorem gAll_len : ∀ {gs : List GM} {ds : List D} {ρ : Env} {S : Store} {z}, gAll gs ds ρ S = some z → ds.length = gs.length := by
  intro gs
  induction gs with
  | nil => intro ds ρ S z e; cases ds with
    | nil => rfl
    | cons _ _ => cases e
  | cons g gs ih => intro ds ρ S z e; cases ds with
    | nil => cases e
    | cons d ds =>
      unfold gAll at e
      split at e
      · rw [List.length_cons, List.length_cons, ih e]
      · cases e
theorem ig_tup {ts : List Expr} {k : Nat} {gs : List GM} {vs : List Nat} (h : IGs X ts gs vs) (hc : X.calm = true := by rfl) (hn : (assignEach ts X.env).length = gs.length := by rfl) (hst : (assignEach ts X.env).findIdx? (·.1) = none := by rfl) :
    IG X (.Tuple ts k pos) (gT gs) vs := PG.imp (PG.or (pg_tup hc h hn hst) (pg_lst hc h hn hst)) fun v σ H Q h => by
  obtain ⟨φ, ρ, S, r, eo, so, q, ρ', S', e, k⟩ := h
  cases r with
  | ref i => cases e
  | d x =>
    cases x with
    | tuple ds =>
      obtain ⟨a, xs, rfl, hs, df⟩ := Df.tup_at q
      exact .inl ⟨a, xs, rfl, hs.sq, by rw [df.length]; exact gAll_len e, φ, ρ, S, ds, eo, so, df, ρ', S', e, k⟩
    | list ds =>
      obtain ⟨a, xs, rfl, hs, df⟩ := Df.list_at q
      exact .inr ⟨a, xs, rfl, hs.sq, by rw [df.length]; exact gAll_len e, φ, ρ, S, ds, eo, so, df, ρ', S', e, k⟩
    | _ => cases e
/-- an iterable of plain data hands its items to any target -/
theorem ig_s {tg : Expr} {g : GM} {vs : List Nat} (h : IG X tg g vs) : IGk true X tg g vs := PG.imp h fun v σ H Q h => by
  obtain ⟨φ, ρ, S, d, eo, so, q, ρ', S', e, k⟩ := h
  exact ⟨φ, ρ, S, .d d, eo, so, q, ρ', S', e, k⟩
/-- .. and one of tuples of whatever make, to a tuple of targets -/
theorem ig_tupW {ts : List Expr} {k : Nat} {gs : List GM} {vs : List Nat} (h : IGs X ts gs vs) (hc : X.calm = true := by rfl) (hn : (assignEach ts X.env).length = gs.length := by rfl) (hst : (assignEach ts X.env).findIdx? (·.1) = none := by rfl) :
    IGk false X (.Tuple ts k pos) (gT gs) vs := PG.imp (PG.or (pg_tup hc h hn hst) (pg_lst hc h hn hst)) fun v σ H Q h => by
  obtain ⟨φ, ρ, S, x, eo, so, q, ρ', S', e, k⟩ := h
  have tup : ∀ (a : Addr) (xs : List V) (ds : List D), SqT X.K H a xs → DfAll X.K H xs ds → gAll gs ds ρ S = some (ρ', S') → xs.length = gs.length ∧ rdGs X.w X.K gs vs xs σ H Q := fun a xs ds hs df e =>
    ⟨by rw [df.length]; exact gAll_len e, φ, ρ, S, ds, eo, so, df, ρ', S', e, k⟩
  rcases q with q | ⟨a, xs, ds, rfl, rfl, hs, df⟩
  · cases x with
    | tuple ds =>
      obtain ⟨a, xs, rfl, hs, df⟩ := Df.tup_at q
      exact .inl ⟨a, xs, rfl, hs.sq, tup a xs ds hs.sq df e⟩
    | list ds =>
      obtain ⟨a, xs, rfl, hs, df⟩ := Df.list_at q
      exact .inr ⟨a, xs, rfl, hs.sq, by rw [df.length]; exact gAll_len e, φ, ρ, S, ds, eo, so, df, ρ', S', e, k⟩
    | _ => cases e
  · exact .inl ⟨a, xs, rfl, hs, tup a xs ds hs df e⟩
end

/-! ### comprehensions -/
theorem wipe_same {vs ws : List Nat} {σ σ' : L2.St} (h : OutSame vs σ σ') (s : ∀ i ∈ vs, i ∈ ws) : wipe σ' ws = wipe σ ws := by
  have key : ∀ (us : List Nat) (i : Nat), (wipe σ' us)[i]? = if i ∈ us then (if i < σ.length then some none else none) else σ'[i]? := by
    intro us
    induction us with
    | nil => intro i; simp [wipe]
    | cons u us ih =>
      intro i
      unfold wipe
      by_cases hi : u = i
      · subst hi
        by_cases hl : u < σ'.length
        · rw [List.getElem?_set_self (by rw [wipe_length]; exact hl)]
          simp [h.1 ▸ hl]
        · rw [List.getElem?_eq_none (by rw [List.length_set, wipe_length]; omega)]
          have : ¬ u < σ.length := by rw [← h.1]; exact hl
          simp [this]
      · rw [List.getElem?_set_ne hi, ih]
        have : i ≠ u := fun z => hi z.symm
        simp [this]
  have key2 : ∀ (us : List Nat) (i : Nat), (wipe σ us)[i]? = if i ∈ us then (if i < σ.length then some none else none) else σ[i]? := by
    intro us
    induction us with
    | nil => intro i; simp [wipe]
    | cons u us ih =>
      intro i
      unfold wipe
      by_cases hi : u = i
      · subst hi
        by_cases hl : u < σ.length
        · rw [List.getElem?_set_self (by rw [wipe_length]; exact hl)]
          simp [hl]
        · rw [List.getElem?_eq_none (by rw [List.length_set, wipe_length]; omega)]
          simp [hl]
      · rw [List.getElem?_set_ne hi, ih]
        have : i ≠ u := fun z => hi z.symm
        simp [this]
  refine List.ext_getElem? fun i => ?_
  rw [key, key2]
  by_cases hi : i ∈ ws
  · rw [if_pos hi, if_pos hi]
  · rw [if_neg hi, if_neg hi]
    exact h.2 i fun z => hi (s i z)
theorem wipe_at {j : Nat} (τ : L2.St) : ∀ {us : List Nat}, j ∈ us → (wipe τ us)[j]? = if j < τ.length then some none else none
  | [], hj => nomatch hj
  | u :: us, hj => by
    unfold wipe
    by_cases hu : u = j
    · subst hu
      by_cases hl : u < τ.length
      · rw [List.getElem?_set_self (by rw [wipe_length]; exact hl), if_pos hl]
      · rw [List.getElem?_eq_none (by rw [List.length_set, wipe_length]; omega), if_neg hl]
    · rw [List.getElem?_set_ne hu]
      exact wipe_at τ ((List.mem_cons.mp hj).resolve_left fun z => hu z.symm)
theorem wipe_wipe (us : List Nat) (σ : L2.St) : wipe (wipe σ us) us = wipe σ us := by
  refine List.ext_getElem? fun j => ?_
  by_cases hj : j ∈ us
  · rw [wipe_at _ hj, wipe_at _ hj, wipe_length]
  · rw [wipe_out hj]
theorem EnvOk.wipe {K : PySem.W.Frag} {φ : List Addr} {H : Hp} {σ : L2.St} {ρ : Env} (h : EnvOk K φ H σ ρ) : ∀ vs : List Nat, EnvOk K φ H (L2.wipe σ vs) (wipeR ρ vs)
  | [] => h
  | v :: vs => by
    have ih := EnvOk.wipe h vs
    refine ⟨by unfold L2.wipe wipeR; simp [ih.len], fun i r e => ?_⟩
    unfold wipeR at e
    by_cases hi : v = i
    · subst hi
      have hl : v < (wipeR ρ vs).length := by have := (List.getElem?_eq_some_iff.mp e).1; simpa using this
      rw [List.getElem?_set_self hl] at e
      cases e
    · rw [List.getElem?_set_ne hi] at e
      obtain ⟨w, e1, q⟩ := ih.at_ i r e
      exact ⟨w, by unfold L2.wipe; rw [List.getElem?_set_ne hi]; exact e1, q⟩
/-- no exception is wished for -/
abbrev W0 : WX := fun _ _ _ _ => False
theorem EndR.ofOk {α : Type} {K : PySem.W.Frag} {mg : Str → Option Value} {W : WX} {φ : List Addr} {H : Hp} {σ : L2.St} {P : α → List Addr → Store → Hp → Prop} {r : Res α} {a : α} {S : Store} (e : r = .ok a S)
    (h : ∀ φ' H', Grow φ H φ' H' → StOk w K φ' H' S → P a φ' S H') : EndR w K mg W φ H σ P r := by rw [e]; exact h
theorem noEx_ok {α : Type} {r : Res α} {a : α} {S : Store} (h : noEx r = .ok a S) : r = .ok a S := by
  cases r with
  | ok b S' => exact h
  | ex _ _ => cases h
  | no => cases h
theorem bind_okE {α β : Type} {r : Res α} {f : α → Store → Res β} {b : β} {S : Store} (h : r.bind f = .ok b S) : ∃ a S1, r = .ok a S1 ∧ f a S1 = .ok b S := by
  cases r with
  | ok a S1 => exact ⟨a, S1, rfl, h⟩
  | ex _ _ => cases h
  | no => cases h
theorem rd_lc {kk : Bool} {K : PySem.W.Frag} {mg : Str → Option Value} {W : WX} {it : IM} {own gv : List Nat} {g : GM} {c : TM} {el : EM} {σ : L2.St} {H : Hp} {Q : VK} (hv : ∀ i ∈ gv, i ∈ own) (h : rdN w K mg W (mLc it own g c el) σ H Q) :
    tLc (rdI kk w K mg W it) (rdGk kk w K g gv) (rdT w K mg W0 c) (rdE w K mg W0 el) own σ H Q := by
  obtain ⟨φ, ρ, S, eo, so, h⟩ := h
  refine ⟨φ, ρ, S, eo, so, ?_⟩
  unfold mLc at h
  cases q : it ρ S with
  | ex x S1 => rw [q] at h; exact h
  | no => rw [q] at h; exact h
  | ok ds S1 =>
    rw [q] at h
    simp only [Res.bind_ok] at h
    cases q2 : noEx (lcLoop (wipeR ρ own) g c el ds S1) with
    | ex x S2 => rw [q2] at h; exact h.elim
    | no => rw [q2] at h; exact h.elim
    | ok ys S2 =>
      rw [q2] at h
      simp only at h
      by_cases hz : ys.length ≤ sizeLine
      · rw [if_pos hz] at h
        have q3 := noEx_ok q2
        intro φ1 H1 g1 so1 J H2 s12 iok D hD
        have g2 : Grow φ H φ1 H2 := g1.trans (Grow.same s12)
        have so2 : StOk w K φ1 H2 S1 := so1.same s12
        have hD1 : D ∉ φ1 := so2.free hD
        have hDn : H D = none := Grow.none g2 hD hD1
        -- the invariant
        refine ⟨fun i m H' => m = ds.length - i ∧ i ≤ ds.length ∧ ∃ φ' S' acc accd rest, Grow φ1 H2 φ' H' ∧ StOk w K φ' H' S' ∧ D ∉ φ' ∧ H' D = some (.lst acc) ∧ DfAll K H' acc accd ∧ lcLoop (wipeR ρ own) g c el (ds.drop i) S' = .ok rest S2 ∧ accd ++ rest = ys,
          ⟨ds.length, by simp, Nat.zero_le _, φ1, S1, [], [], ys, ?_, ?_, hD1, upd_same, .nil, by simpa using q3, rfl⟩, ?_⟩
        · exact ⟨List.prefix_refl _, fun a o e _ => by rw [upd_ne (ne_of_none e hD)]; exact e, fun a ha => .inl ha⟩
        · exact so2.same fun a o e => by rw [upd_ne (ne_of_none e hD)]; exact e
        · rintro i m H' ⟨rfl, hi, φ', S', acc, accd, rest, g3, so3, hD3, eD, dfa, ql, ea⟩
          have st : Stab H2 H' := g3.stab
          obtain ⟨ik, ie⟩ := iok H' i st
          by_cases hlt : i < ds.length
          · right
            obtain ⟨d, hd⟩ : ∃ d, ds[i]? = some d := ⟨ds[i], List.getElem?_eq_getElem hlt⟩
            have hdrop : ds.drop i = d :: ds.drop (i + 1) := by
              rw [List.drop_eq_getElem_cons hlt]
              rw [List.getElem?_eq_getElem hlt] at hd
              cases hd; rfl
            obtain ⟨go, yl⟩ := ik d hd
            refine ⟨go, fun H'' => i + 1 ≤ ds.length ∧ ∃ φ' S' acc accd rest, Grow φ1 H2 φ' H'' ∧ StOk w K φ' H'' S' ∧ D ∉ φ' ∧ H'' D = some (.lst acc) ∧ DfAll K H'' acc accd ∧ lcLoop (wipeR ρ own) g c el (ds.drop (i + 1)) S' = .ok rest S2 ∧ accd ++ rest = ys,
              fun H'' hn => ⟨ds.length - (i + 1), by omega, rfl, hn.1, hn.2⟩, fun x H4 y => ?_⟩
            obtain ⟨s34, dx⟩ := yl x H4 y
            rw [hdrop] at ql
            unfold lcLoop at ql
            cases eg : g (.d d) (wipeR ρ own) S' with
            | none => rw [eg] at ql; cases ql
            | some z =>
              obtain ⟨ρ5, S5⟩ := z
              rw [eg] at ql
              simp only at ql
              obtain ⟨k, S6, ec, ql⟩ := bind_okE ql
              have g4 : Grow φ1 H2 φ' H4 := g3.trans (Grow.same s34)
              have eow : EnvOk K φ' H4 (wipe σ own) (wipeR ρ own) := ((eo.grow g2).grow g4).wipe own
              refine ⟨φ', wipeR ρ own, S', d, eow, so3.same s34, dx, ρ5, S5, eg, fun φ5 σ5 H5 g5 so5 eo5 os5 => ⟨?_, ?_⟩⟩
              · rw [wipe_same os5 hv]
                exact wipe_wipe own σ
              · have g45 : Grow φ1 H2 φ5 H5 := g4.trans g5
                have hD5 : D ∉ φ5 := fun hm => by
                  rcases g5.new D hm with z | z
                  · exact hD3 z
                  · rw [s34 _ _ eD] at z; cases z
                have eD5 : H5 D = some (.lst acc) := g5.keep D _ (s34 _ _ eD) (.inr hD3)
                have dfa5 : DfAll K H5 acc accd := DfAll.mono ((Same.stab s34).trans g5.stab) dfa
                refine ⟨φ5, ρ5, S5, eo5, so5, EndR.ofOk ec fun φ6 H6 g6 so6 => ?_⟩
                have g46 := g45.trans g6
                have hD6 : D ∉ φ6 := fun hm => by
                  rcases g6.new D hm with z | z
                  · exact hD5 z
                  · rw [eD5] at z; cases z
                have eD6 : H6 D = some (.lst acc) := g6.keep D _ eD5 (.inr hD5)
                have dfa6 : DfAll K H6 acc accd := DfAll.mono g6.stab dfa5
                cases k with
                | false =>
                  refine iteF ?_
                  exact ⟨hlt, φ6, S6, acc, accd, rest, g46, so6, hD6, eD6, dfa6, ql, ea⟩
                | true =>
                  refine iteT ?_
                  simp only at ql
                  obtain ⟨r, S7, er, ql⟩ := bind_okE ql
                  refine ⟨φ6, ρ5, S6, eo5.grow g6, so6, EndR.ofOk er fun φ7 H7 g7 so7 v r7 => ?_⟩
                  cases er2 : rdR r with
                  | none => rw [er2] at ql; cases ql
                  | some y7 =>
                    rw [er2] at ql
                    simp only at ql
                    obtain ⟨rest', S8, e8, e9⟩ := bind_okE ql
                    cases e9
                    have hD7 : D ∉ φ7 := fun hm => by
                      rcases g7.new D hm with z | z
                      · exact hD6 z
                      · rw [eD6] at z; cases z
                    have eD7 : H7 D = some (.lst acc) := g7.keep D _ eD6 (.inr hD6)
                    have dfa7 : DfAll K H7 acc accd := DfAll.mono g7.stab dfa6
                    have dv := r7.plain er2
                    have sb : Stab H7 (upd H7 D (.lst (acc ++ [v]))) := upd_stab eD7 rfl
                    refine ⟨acc, eD7, ?_, hlt, φ7, S7, acc ++ [v], accd ++ [y7], rest', (g46.trans g7).frz hD, so7.upd eD7 rfl hD7, hD7, upd_same, DfAll.mono sb (dfa7.append (.cons dv .nil)), e8, by rw [← ea]; simp⟩
                    have : acc.length + 1 ≤ ys.length := by rw [← ea, dfa.length]; simp
                    omega
          · left
            have hi' : i = ds.length := by omega
            subst hi'
            refine ⟨ie (Nat.le_refl _), ?_⟩
            rw [List.drop_length] at ql
            cases ql
            rw [List.append_nil] at ea
            subst ea
            exact h φ' H' (g2.trans g3) so3 D acc hDn hD3 eD dfa
      · rw [if_neg hz] at h; exact h.elim
end Pi

set_option Elab.async false
set_option linter.all false
set_option maxRecDepth 100000
/-! Pi5: statements, defs, calls. -/
namespace Pi
open PySem PySem.Spec PyProof.Rows L2

/-- name = [..] on one line -/
def mSetL (i : Nat) (l : IM) : SM := fun ρ S => (l ρ S).out ρ fun ds S1 => if i < ρ.length then .nx (ρ.set i (some (.d (.list ds)))) S1 else .no

section
variable {K : PySem.W.Frag} {mg : Str → Option Value} {W : WX} {σ : L2.St} {H : Hp} {φ : List Addr} {D : Ends}
theorem EndS.later {φ1 : List Addr} {H1 : Hp} {o : Out} (g : Grow φ H φ1 H1) (h : EndS w K mg W φ H D o) : EndS w K mg W φ1 H1 D o := by
  cases o with
  | nx ρ' S' => exact fun φ' σ' H' g' so eo => h φ' σ' H' (g.trans g') so eo
  | rt r S' => exact fun φ' v H' g' so q => h φ' v H' (g.trans g') so q
  | ex x ρ' S' => exact fun φ' σ' H' cls dA g' so eo q => h φ' σ' H' cls dA (g.trans g') so eo q
  | no => exact h
theorem EndS.out {α : Type} {r : Res α} {ρ : Env} {f : α → Store → Out} (eo : EnvOk K φ H σ ρ) (h : EndS w K mg W φ H D (r.out ρ f)) : EndR w K mg W φ H σ (fun a φ1 S1 H1 => EndS w K mg W φ1 H1 D (f a S1)) r := by
  cases r with
  | ok a S1 => exact fun φ1 H1 g so => EndS.later g h
  | ex x S1 => exact fun φ1 H1 cls dA g so q => h φ1 σ H1 cls dA g so (eo.grow g) q
  | no => exact h
theorem EndS.seq {b : SM} {o : Out} (h : EndS w K mg W φ H D (match o with | .nx ρ1 S1 => b ρ1 S1 | o => o)) : EndS w K mg W φ H { D with nx := rdS w K mg W b D } o := by
  cases o with
  | nx ρ1 S1 => exact fun φ' σ' H' g so eo => ⟨φ', ρ1, S1, eo, so, EndS.later g h⟩
  | rt r S' => exact h
  | ex x ρ' S' => exact h
  | no => exact h
theorem EndS.now {ρ : Env} {S : Store} (so : StOk w K φ H S) (eo : EnvOk K φ H σ ρ) (h : EndS w K mg W φ H D (.nx ρ S)) : D.nx σ H := h φ σ H (Grow.refl _ _) so eo
theorem EndS.ret {r : R} {S : Store} {v : V} (so : StOk w K φ H S) (q : RelR K φ H v r) (h : EndS w K mg W φ H D (.rt r S)) : D.rt v H := h φ v H (Grow.refl _ _) so q
/-- only what follows and what is returned are asked -/
theorem EndS.ends {D' : Ends} {o : Out} (h1 : D'.nx = D.nx) (h2 : D'.rt = D.rt) (h : EndS w K mg W φ H D o) : EndS w K mg W φ H D' o := by
  cases o with
  | nx ρ1 S1 => show ∀ φ' σ' H', Grow φ H φ' H' → StOk w K φ' H' S1 → EnvOk K φ' H' σ' ρ1 → D'.nx σ' H'; rw [h1]; exact h
  | rt r S' => show ∀ φ' v H', Grow φ H φ' H' → StOk w K φ' H' S' → RelR K φ' H' v r → D'.rt v H'; rw [h2]; exact h
  | ex x ρ' S' => exact h
  | no => exact h
end
section
variable {X : Cx} {W : WX} {elt tg iter c : Expr} {ifs : List Expr} {scope : Scope} {own : List (Str × Nat)} {pos : Pos} {it : IM} {g : GM} {gv : List Nat} {cm : TM} {el : EM}
theorem i_ts0 : PTs X [] (rdT X.w X.K X.mg W mYes) := ⟨fun pins s σ H Q I h => pts_nil.run pins s σ H Q I (by obtain ⟨φ, ρ, S, eo, so, h⟩ := h; exact EndR.now so h)⟩
theorem i_ts1 (h : IT X W c cm) : PTs X [c] (rdT X.w X.K X.mg W cm) := pts_one h
theorem i_lc {kk : Bool} (hN : X.N.Nodup) (hi : IIk kk X tg W iter it) (ok : BlkOk X.N X.env.scope scope own) (hv : ∀ i ∈ gv, i ∈ own.map (·.2))
    (hg : ∀ (s : Shared) (H : Hp) (C : Addr) (cl : List (Str × Addr)) (fp : List Addr), IGk kk (X.blk s H scope (compEnvC scope cl C X.env) fp) tg g gv) (ht : ∀ (s : Shared) (H : Hp) (C : Addr) (cl : List (Str × Addr)) (fp : List Addr), PTs (X.blk s H scope (compEnvC scope cl C X.env) fp) ifs (rdT X.w X.K X.mg W0 cm))
    (he : ∀ (s : Shared) (H : Hp) (C : Addr) (cl : List (Str × Addr)) (fp : List Addr), IE (X.blk s H scope (compEnvC scope cl C X.env) fp) W0 elt el) (hc : X.calm = true := by rfl) (hs : ∀ x, foldedSetIterable iter X.env x = pure x := by intro _; rfl) :
    IN X W (.ListComp elt [⟨tg, iter, ifs, 0⟩] scope pos) (mLc it (own.map (·.2)) g cm el) := PE.imp (pe_lc hc hN hi ok hg ht he hs) fun _ _ _ h => rd_lc hv h
theorem ps_frz {st : Stmt} {t : TE} {i : Nat} (h : PS X st (tAsg t (gName i))) : PS X st (fun D σ H => t σ H fun v H1 => ∃ a xs, (σ.set i (some v))[i]? = some (some (.ref a)) ∧ H1 a = some (.lst xs) ∧ ∀ o, D.nx (σ.set i (some v)) (upd H1 a (.frz o (.lst xs)))) := by
  refine ⟨fun pins s σ H D I q => thn (h.run pins s σ H { D with nx := fun σ' H' => ∃ a xs, σ'[i]? = some (some (.ref a)) ∧ H' a = some (.lst xs) ∧ ∀ o, D.nx σ' (upd H' a (.frz o (.lst xs))) } I q) fun f s1 r => ?_⟩
  cases f with
  | next =>
    obtain ⟨σ', H', I', a, xs, e, ea, k⟩ := r
    obtain ⟨o, I2⟩ := I'.freeze ea
    exact ⟨_, _, I2, k o⟩
  | ret v => exact r
  | brk => exact r
  | cont => exact r
theorem is_setL {st : Stmt} {i : Nat} {l : IM} (h : PS X st (tAsg (rdN X.w X.K X.mg W l) (gName i))) : IS X W st (mSetL i l) := PS.imp (ps_frz h) fun D σ H h => by
  obtain ⟨φ, ρ, S, eo, so, h⟩ := h
  refine ⟨φ, ρ, S, eo, so, ?_⟩
  unfold mSetL at h
  cases q : l ρ S with
  | ok ds S1 =>
    rw [q] at h
    simp only [Res.out_ok] at h
    split at h
    · rename_i hl
      exact fun φ1 H1 g1 so1 p vs n np ep df => ⟨p, vs, List.getElem?_set_self (by rw [eo.len]; exact hl), ep, fun o =>
        h φ1 _ _ (g1.frz n) (so1.upd ep rfl np) ((eo.grow (g1.frz n)).set (r := .d (.list ds)) (.lst (.inl ⟨o, upd_same⟩) (DfAll.mono (upd_stab ep rfl) df)) i)⟩
    · exact h.elim
  | ex x S1 => rw [q] at h; exact fun φ1 H1 cls dA g1 so1 q => h φ1 σ H1 cls dA g1 so1 (eo.grow g1) q
  | no => rw [q] at h; exact h
/-- .. with the names' swap -/
theorem is_lcS {kk : Bool} {i : Nat} {y : Str} {py spos : Pos} (hN : X.N.Nodup) (hi : IIk kk X tg W iter it) (ok : BlkOk X.N X.env.scope scope own) (hv : ∀ i ∈ gv, i ∈ own.map (·.2))
    (hg : ∀ (s : Shared) (H : Hp) (C : Addr) (cl : List (Str × Addr)) (fp : List Addr), IGk kk (X.blk s H scope (compEnvC scope cl C X.env) fp) tg g gv) (ht : ∀ (s : Shared) (H : Hp) (C : Addr) (cl : List (Str × Addr)) (fp : List Addr), PTs (X.blk s H scope (compEnvC scope cl C X.env) fp) ifs (rdT X.w X.K X.mg W0 cm))
    (he : ∀ (s : Shared) (H : Hp) (C : Addr) (cl : List (Str × Addr)) (fp : List Addr), IE (X.blk s H scope (compEnvC scope cl C X.env) fp) W0 elt el)
    (hsw : swapsWith (.ListComp elt [⟨tg, iter, ifs, 0⟩] scope pos) (some (.Name y py)) spos.line X.env = pure true) (hy : X.N[i]? = some y := by rfl) (hyl : X.env.scope.names.lookup y = some .local := by rfl) (hc : X.calm = true := by rfl) (hs : ∀ x, foldedSetIterable iter X.env x = pure x := by intro _; rfl) :
    PS X (.Assign [.Name y py] (.ListComp elt [⟨tg, iter, ifs, 0⟩] scope pos) spos) (tAsg (rdN X.w X.K X.mg W (mLc it (own.map (·.2)) g cm el)) (gName i)) :=
  PS.imp (ps_setLc hc hN hy hyl hsw hi ok hg ht he hs) fun D σ H h => rd_lc hv h
theorem is_lcN {st : Stmt} {i : Nat} {l : IM} (h : PS X st (tAsg (rdN X.w X.K X.mg W l) (gName i))) : IS X W st (mAsg (gN i) (mNew l)) := PS.imp h fun D σ H h => by
  refine rd_new ?_
  obtain ⟨φ, ρ, S, eo, so, h⟩ := h
  exact ⟨φ, ρ, S, eo, so, (EndS.out eo h).imp fun r φ1 S1 H1 _ g1 so1 h1 v r1 => EndS.now so1 ((eo.grow g1).set r1 i) h1⟩
end

/-! ### statements -/
section
variable {X : Cx} {W : WX} {e c tg : Expr} {st : Stmt} {rest a b : List Stmt} {m : EM} {cm : TM} {sa sb : SM} {pos : Pos} {g : GM} {gv : List Nat} {it : IM}
theorem is_nil : ISs X W [] mSkip := PSs.imp pss_nil fun D σ H h => by
  obtain ⟨φ, ρ, S, eo, so, h⟩ := h
  exact EndS.now so eo h
theorem is_cons (h1 : IS X W st sa) (h2 : ISs X W rest sb) : ISs X W (st :: rest) (mSeq sa sb) := PSs.imp (pss_cons h1 h2) fun D σ H h => by
  obtain ⟨φ, ρ, S, eo, so, h⟩ := h
  exact ⟨φ, ρ, S, eo, so, EndS.seq h⟩
theorem is_last (h1 : IS X W st sa) : ISs X W [st] sa := pss_one h1
theorem is_pass : IS X W (.Pass pos) mSkip := PS.imp ps_pass fun D σ H h => by
  obtain ⟨φ, ρ, S, eo, so, h⟩ := h
  exact EndS.now so eo h
theorem is_expr (h : IE X W e m) (hs : swapsWith e none pos.line X.env = pure false := by rfl) : IS X W (.Expr e pos) (mExpr m) := PS.imp (ps_expr h hs) fun D σ H h => by
  obtain ⟨φ, ρ, S, eo, so, h⟩ := h
  exact ⟨φ, ρ, S, eo, so, (EndS.out eo h).imp fun r φ1 S1 H1 _ g1 so1 h1 v r1 => EndS.now so1 (eo.grow g1) h1⟩
theorem is_ret (h : IE X W e m) : IS X W (.Return (some e) pos) (mRet m) := PS.imp (ps_ret h) fun D σ H h => by
  obtain ⟨φ, ρ, S, eo, so, h⟩ := h
  exact ⟨φ, ρ, S, eo, so, (EndS.out eo h).imp fun r φ1 S1 H1 _ g1 so1 h1 v r1 => EndS.ret so1 r1 h1⟩
theorem is_retN : IS X W (.Return none pos) mRetN := PS.imp ps_retN fun D σ H h => by
  obtain ⟨φ, ρ, S, eo, so, h⟩ := h
  exact EndS.ret (r := .d .none) so .non h
theorem is_if (hc : IT X W c cm) (ha : ISs X W a sa) (hb : ISs X W b sb) : IS X W (.If c a b pos) (mIf cm sa sb) := PS.imp (ps_if hc ha hb) fun D σ H h => by
  obtain ⟨φ, ρ, S, eo, so, h⟩ := h
  refine ⟨φ, ρ, S, eo, so, (EndS.out eo h).imp fun k φ1 S1 H1 _ g1 so1 h1 => ?_⟩
  cases k with
  | true => exact iteT ⟨φ1, ρ, S1, eo.grow g1, so1, h1⟩
  | false => exact iteF ⟨φ1, ρ, S1, eo.grow g1, so1, h1⟩
theorem is_set (i : Nat) {x : Str} {pos' : Pos} (hN : X.N.Nodup) (h : IE X W e m) (hi : X.N[i]? = some x := by rfl) (hx : Loc X.env.scope x := by first | exact Or.inl rfl | exact Or.inr rfl) (hs : swapsWith e (some (.Name x pos')) pos.line X.env = pure false := by rfl)
    (hf : X.fn x = true ∨ X.env.scope.names.lookup x = some .local := by first | exact .inl rfl | exact .inr rfl | assumption) : IS X W (.Assign [.Name x pos'] e pos) (mAsg (gN i) m) := PS.imp (ps_set hN hi hx h hs hf) fun D σ H h => by
  obtain ⟨φ, ρ, S, eo, so, h⟩ := h
  exact ⟨φ, ρ, S, eo, so, (EndS.out eo h).imp fun r φ1 S1 H1 _ g1 so1 h1 v r1 => EndS.now so1 ((eo.grow g1).set r1 i) h1⟩
theorem is_asg (hg : IG X tg g gv) (h : IE X W e m) (hs : swapsWithSole [tg] e pos.line X.env = pure false := by rfl) (hw : swappedStores [tg] e X.env = pure none := by rfl) (h1 : (assignEach [tg] X.env).map (·.2) = [assign tg X.env] := by rfl) :
    IS X W (.Assign [tg] e pos) (mAsg g m) := PS.imp (ps_asg h hg hs hw h1) fun D σ H h => by
  obtain ⟨φ, ρ, S, eo, so, h⟩ := h
  refine ⟨φ, ρ, S, eo, so, (EndS.out eo h).imp fun r φ1 S1 H1 _ g1 so1 h1 v r1 => ?_⟩
  split at h1
  · rename_i ρ2 S2 e2
    exact ⟨φ1, ρ, S1, r, eo.grow g1, so1, r1, ρ2, S2, e2, fun φ' σ' H' g2 so2 eo2 _ => h1 φ' σ' H' g2 so2 eo2⟩
  · exact h1.elim
theorem paired2 {φ : List Addr} {K : PySem.W.Frag} {H : Hp} {vs : List V} {rs : List R} (h : RelRs K φ H vs rs) (hl : rs.length = 2) : ∃ v w r s, vs = [v, w] ∧ rs = [r, s] ∧ RelR K φ H v r ∧ RelR K φ H w s := by
  cases h with
  | nil => simp at hl
  | cons h1 t =>
    cases t with
    | nil => simp at hl
    | cons h2 t =>
      cases t with
      | nil => exact ⟨_, _, _, _, rfl, rfl, h1, h2⟩
      | cons _ _ => simp at hl
theorem paired3 {φ : List Addr} {K : PySem.W.Frag} {H : Hp} {vs : List V} {rs : List R} (h : RelRs K φ H vs rs) (hl : rs.length = 3) : ∃ v w u r s t, vs = [v, w, u] ∧ rs = [r, s, t] ∧ RelR K φ H v r ∧ RelR K φ H w s ∧ RelR K φ H u t := by
  cases h with
  | nil => simp at hl
  | cons h1 t =>
    obtain ⟨v, w, r, s, e1, e2, q1, q2⟩ := paired2 t (by simpa using hl)
    subst e1; subst e2
    exact ⟨_, _, _, _, _, _, rfl, rfl, h1, q1, q2⟩
theorem is_par (i j : Nat) {x y : Str} {p q : Expr} {am : AM} {px py pt : Pos} {kt k2 pt2} (hN : X.N.Nodup) (ha : IA X W [p, q] am)
    (hw : swappedStores [.Tuple [.Name x px, .Name y py] kt pt] (.Tuple [p, q] k2 pt2) X.env = pure (some [x, y])) (hi : X.N[i]? = some x := by rfl) (hj : X.N[j]? = some y := by rfl) (hij : i ≠ j := by decide)
    (hx : X.env.scope.names.lookup x = some .local := by rfl) (hy : X.env.scope.names.lookup y = some .local := by rfl) (hc : X.calm = true := by rfl)
    (hs : swapsWithSole [.Tuple [.Name x px, .Name y py] kt pt] (.Tuple [p, q] k2 pt2) pos.line X.env = pure false := by rfl) :
    IS X W (.Assign [.Tuple [.Name x px, .Name y py] kt pt] (.Tuple [p, q] k2 pt2) pos) (mPar [i, j] am) := PS.imp (ps_par hc hN hi hj hij hx hy ha hw hs) fun D σ H h => by
  obtain ⟨φ, ρ, S, eo, so, h⟩ := h
  refine ⟨φ, ρ, S, eo, so, (EndS.out eo h).imp fun rs φ1 S1 H1 _ g1 so1 h1 vs r1 => ?_⟩
  split at h1
  · rename_i hl
    obtain ⟨v, w, r, s, rfl, rfl, q1, q2⟩ := paired2 r1 hl
    exact ⟨v, w, rfl, EndS.now so1 (((eo.grow g1).set q1 i).set q2 j) h1⟩
  · exact h1.elim
theorem is_par3 (i j l : Nat) {x y z : Str} {p q r : Expr} {am : AM} {px py pz pt : Pos} {kt k2 pt2} (hN : X.N.Nodup) (ha : IA X W [p, q, r] am)
    (hw : swappedStores [.Tuple [.Name x px, .Name y py, .Name z pz] kt pt] (.Tuple [p, q, r] k2 pt2) X.env = pure (some [x, y, z])) (hi : X.N[i]? = some x := by rfl) (hj : X.N[j]? = some y := by rfl) (hl : X.N[l]? = some z := by rfl) (hij : i ≠ j := by decide) (hil : i ≠ l := by decide) (hjl : j ≠ l := by decide)
    (hx : X.env.scope.names.lookup x = some .local := by rfl) (hy : X.env.scope.names.lookup y = some .local := by rfl) (hz : X.env.scope.names.lookup z = some .local := by rfl) (hc : X.calm = true := by rfl)
    (hs : swapsWithSole [.Tuple [.Name x px, .Name y py, .Name z pz] kt pt] (.Tuple [p, q, r] k2 pt2) pos.line X.env = pure false := by rfl) :
    IS X W (.Assign [.Tuple [.Name x px, .Name y py, .Name z pz] kt pt] (.Tuple [p, q, r] k2 pt2) pos) (mPar [i, j, l] am) := PS.imp (ps_par3 hc hN hi hj hl hij hil hjl hx hy hz ha hw hs) fun D σ H h => by
  obtain ⟨φ, ρ, S, eo, so, h⟩ := h
  refine ⟨φ, ρ, S, eo, so, (EndS.out eo h).imp fun rs φ1 S1 H1 _ g1 so1 h1 vs r1 => ?_⟩
  split at h1
  · rename_i hl
    obtain ⟨v, w, u, r, s, t, rfl, rfl, q1, q2, q3⟩ := paired3 r1 hl
    exact ⟨v, w, u, rfl, EndS.now so1 ((((eo.grow g1).set q1 i).set q2 j).set q3 l) h1⟩
  · exact h1.elim
theorem is_for {kk : Bool} (hp : PassesOwn (model X.prog X.w) X.A X.env X.xe) (hi : IIk kk X tg W e it) (hg : IGk kk X tg g gv) (hb : ISs X W b sb) (hc : X.calm = true := by rfl) (hs : ∀ x, foldedSetIterable e X.env x = pure x := by intro _; rfl) :
    IS X W (.For tg e b [] pos) (mFor it g sb) := PS.imp (ps_for hp hc hi hg hb hs) fun D σ H h => by
  obtain ⟨φ, ρ, S, eo, so, h⟩ := h
  refine ⟨φ, ρ, S, eo, so, (EndS.out eo h).imp fun ds φ1 S1 H1 _ g1 so1 h1 J H2 s12 iok => ?_⟩
  have g2 : Grow φ1 H1 φ1 H2 := Grow.same s12
  refine ⟨fun i m σ' H' => m = ds.length - i ∧ i ≤ ds.length ∧ ∃ φ' ρ' S', Grow φ1 H2 φ' H' ∧ EnvOk X.K φ' H' σ' ρ' ∧ StOk X.w X.K φ' H' S' ∧ EndS X.w X.K X.mg W φ' H' D (forLoop g sb (ds.drop i) ρ' S'),
    ⟨ds.length, by simp, Nat.zero_le _, φ1, ρ, S1, Grow.refl _ _, (eo.grow g1).grow g2, so1.same s12, EndS.later g2 h1⟩, ?_⟩
  rintro i m σ' H' ⟨rfl, hi', φ', ρ', S', g3, eo3, so3, h3⟩
  obtain ⟨ik, ie⟩ := iok H' i g3.stab
  by_cases hlt : i < ds.length
  · right
    have hd : ds[i]? = some ds[i] := List.getElem?_eq_getElem hlt
    obtain ⟨go, yl⟩ := ik _ hd
    rw [List.drop_eq_getElem_cons hlt] at h3
    unfold forLoop at h3
    refine ⟨go, fun σ'' H'' => ∃ φ' ρ' S', Grow φ1 H2 φ' H'' ∧ EnvOk X.K φ' H'' σ'' ρ' ∧ StOk X.w X.K φ' H'' S' ∧ EndS X.w X.K X.mg W φ' H'' D (forLoop g sb (ds.drop (i + 1)) ρ' S'),
      fun σ'' H'' hn => ⟨ds.length - (i + 1), by omega, rfl, hlt, hn⟩, fun x H4 y => ?_⟩
    obtain ⟨s34, dx⟩ := yl x H4 y
    have g4 : Grow φ' H' φ' H4 := Grow.same s34
    cases eg : g (.d ds[i]) ρ' S' with
    | none => rw [eg] at h3; exact h3.elim
    | some z =>
      obtain ⟨ρ5, S5⟩ := z
      rw [eg] at h3
      simp only at h3
      refine ⟨φ', ρ', S', ds[i], eo3.grow g4, so3.same s34, dx, ρ5, S5, eg, fun φ5 σ5 H5 g5 so5 eo5 _ => ⟨φ5, ρ5, S5, eo5, so5, ?_⟩⟩
      have h5 := EndS.later (g4.trans g5) h3
      cases eb : sb ρ5 S5 with
      | nx ρ6 S6 =>
        rw [eb] at h5
        exact fun φ6 σ6 H6 g6 so6 eo6 => ⟨φ6, ρ6, S6, ((g3.trans g4).trans g5).trans g6, eo6, so6, EndS.later g6 h5⟩
      | rt r S6 => rw [eb] at h5; exact h5
      | ex x ρ6 S6 => rw [eb] at h5; exact h5
      | no => rw [eb] at h5; exact h5
  · left
    have hi2 : i = ds.length := by omega
    subst hi2
    refine ⟨ie (Nat.le_refl _), ?_⟩
    rw [List.drop_length] at h3
    exact EndS.now so3 eo3 h3
theorem is_while (n : Nat) (hp : PassesOwn (model X.prog X.w) X.A X.env X.xe) (hc : IT X W c cm) (hb : ISs X W b sb) : IS X W (.While c b [] pos) (mWhile n cm sb) := PS.imp (ps_while hp hc hb) fun D σ H h => by
  obtain ⟨φ, ρ, S, eo, so, h⟩ := h
  refine ⟨fun m σ' H' => ∃ φ' ρ' S', EnvOk X.K φ' H' σ' ρ' ∧ StOk X.w X.K φ' H' S' ∧ EndS X.w X.K X.mg W φ' H' D (whileLoop cm sb m ρ' S'), ⟨n, φ, ρ, S, eo, so, h⟩, ?_⟩
  rintro m σ' H' ⟨φ', ρ', S', eo', so', h'⟩
  cases m with
  | zero => exact h'.elim
  | succ m =>
    unfold whileLoop at h'
    refine ⟨φ', ρ', S', eo', so', (EndS.out eo' h').imp fun k φ1 S1 H1 _ g1 so1 h1 => ?_⟩
    cases k with
    | false => exact iteF (EndS.now so1 (eo'.grow g1) h1)
    | true =>
      refine iteT ⟨fun σ2 H2 => ∃ φ2 ρ2 S2, EnvOk X.K φ2 H2 σ2 ρ2 ∧ StOk X.w X.K φ2 H2 S2 ∧ EndS X.w X.K X.mg W φ2 H2 D (whileLoop cm sb m ρ2 S2), fun σ2 H2 hn => ⟨m, Nat.lt_succ_self m, hn⟩, φ1, ρ', S1, eo'.grow g1, so1, ?_⟩
      simp only at h1
      cases eb : sb ρ' S1 with
      | nx ρ6 S6 =>
        rw [eb] at h1
        exact fun φ6 σ6 H6 g6 so6 eo6 => ⟨φ6, ρ6, S6, eo6, so6, EndS.later g6 h1⟩
      | rt r S6 => rw [eb] at h1; exact h1
      | ex x ρ6 S6 => rw [eb] at h1; exact h1
      | no => rw [eb] at h1; exact h1
/-- raise X('..') -/
theorem is_raise {x : String} {m' : Str} {j : Nat} {p p2 pos2 : Pos} {C : Addr} {bmB : List Value} {B newId initId : String} (tk : Takes X W) (F : ExcBaseFacts B newId initId bmB) (q : PySem.W.excIn X.K C bmB newId = true) (gC : X.mg (Str.ofString x) = some (.ref C)) (kC : PySem.W.keepIn X.K (.ref C) = true)
    (r : Raises X (.ref C)) (hg : Gl X (Str.ofString x) := by rfl) (hc : X.calm = true := by rfl) (hdb : (Str.ofString x == ("__debug__" : Str)) = false := by decide) :
    IS X W (.Raise (some (.Call (.Name (Str.ofString x) p) [.Constant (.str m') j p2] [] pos)) none pos2) (mRaise x) := PS.imp (ps_raise hc tk (pmk_own F q gC kC r hg hdb)) fun D σ H h => by
  obtain ⟨φ, ρ, S, eo, so, h⟩ := h
  exact h φ σ H _ none (Grow.refl _ _) so eo ⟨C, gC, rfl, .inl rfl⟩
end

/-! ### defs -/
/-- what is wanted of a def's answer -/
def EndF (w : World) (K : PySem.W.Frag) (mg : Str → Option Value) (φ : List Addr) (H : Hp) (Q : VK) (E : XK) : Res R → Prop
  | .ok r S' => ∀ φ' v H', Grow φ H φ' H' → StOk w K φ' H' S' → RelR K φ' H' v r → Q v H'
  | .ex x S' => ∀ φ' H' cls dA, Grow φ H φ' H' → StOk w K φ' H' S' → XnOk mg K H' x cls dA → E cls dA H'
  | .no => False
/-- a def of n parameters does what F says -/
def spF (w : World) (K : PySem.W.Frag) (mg : Str → Option Value) (n : Nat) (F : Fn) : Sp := fun vs H Q E => ∃ φ rs S, vs.length = n ∧ StOk w K φ H S ∧ RelRs K φ H vs rs ∧ EndF w K mg φ H Q E (F rs S)
/-- a global def -/
structure Fx (P : Program) (w : World) (K : PySem.W.Frag) (mg : Str → Option Value) (base : Heap) (x : Str) (n k : Nat) (F : Fn) : Prop where
  ex : ∃ f fd ps, mg x = some (.ref f) ∧ PySem.W.keepIn K (.ref f) = true ∧ Binds K fd ps [] ∧ ps.length = n ∧ FnOk P w K mg base (L2.CX P w) k f fd ps (spF w K mg n F)
theorem Fx.mono {P : Program} {w : World} {K : PySem.W.Frag} {mg : Str → Option Value} {base : Heap} {x : Str} {n j k : Nat} {F : Fn} (h : Fx P w K mg base x n j F) (hk : j ≤ k) : Fx P w K mg base x n k F := by
  obtain ⟨f, fd, ps, h1, h2, h3, h4, h5⟩ := h.ex
  exact ⟨f, fd, ps, h1, h2, h3, h4, h5.mono hk⟩
theorem RelRs.length {K : PySem.W.Frag} {φ : List Addr} {H : Hp} : ∀ {vs : List V} {rs : List R}, RelRs K φ H vs rs → vs.length = rs.length
  | _, _, .nil => rfl
  | _, _, .cons _ t => by rw [List.length_cons, List.length_cons, RelRs.length t]
theorem RelRs.get {K : PySem.W.Frag} {φ : List Addr} {H : Hp} : ∀ {vs : List V} {rs : List R} {i : Nat} {r : R}, RelRs K φ H vs rs → rs[i]? = some r → ∃ v, vs[i]? = some v ∧ RelR K φ H v r
  | _, _, _, _, .nil, e => by simp at e
  | _, _, 0, _, .cons h _, e => by simp at e; subst e; exact ⟨_, rfl, h⟩
  | _, _, i + 1, r, .cons _ t, e => by
    obtain ⟨v, h1, h2⟩ := RelRs.get (i := i) (r := r) t (by simpa using e)
    exact ⟨v, by simpa using h1, h2⟩
theorem DfAll.rel {K : PySem.W.Frag} {φ : List Addr} {H : Hp} : ∀ {vs : List V} {ds : List D}, DfAll K H vs ds → RelRs K φ H vs (ds.map .d)
  | _, _, .nil => .nil
  | _, _, .cons h t => .cons h (DfAll.rel t)
theorem env_start {K : PySem.W.Frag} {φ : List Addr} {H : Hp} {vs : List V} {rs : List R} {N : List Str} (h : RelRs K φ H vs rs) : EnvOk K φ H (L2.start N vs) (startR N.length rs) where
  len := by unfold L2.start startR; simp [RelRs.length h]
  at_ := fun i r e => by
    unfold startR at e
    by_cases hi : i < rs.length
    · rw [List.getElem?_append_left (by simpa using hi)] at e
      rw [List.getElem?_map] at e
      cases q : rs[i]? with
      | none => rw [q] at e; cases e
      | some r' =>
        rw [q] at e; cases e
        obtain ⟨v, h1, h2⟩ := RelRs.get h q
        refine ⟨v, ?_, h2⟩
        unfold L2.start
        rw [List.getElem?_append_left (by simpa [RelRs.length h] using hi), List.getElem?_map, h1]; rfl
    · rw [List.getElem?_append_right (by simpa using hi)] at e
      rw [List.getElem?_replicate] at e
      split at e <;> cases e
abbrev cxF (P : Program) (w : World) (K : PySem.W.Frag) (mg : Str → Option Value) (base : Heap) (N : List Str) (qual : Str) (sc : Scope) (f : Addr) (cdv : Value) (A : Around) (outer : List PySem.Env) (s : Shared) (H : Hp) (E : XK) : Cx := cxOf (L2.CX P w) P w K mg base N qual sc f cdv A outer s H E
abbrev WF (E : XK) : WX := fun cls d _ H => E cls d H
/-- THE RULE of a def: its body's term -/
theorem fn_rule {P : Program} {w : World} {K : PySem.W.Frag} {mg : Str → Option Value} {base : Heap} {x qual : Str} {params : Arguments} {body : List Stmt} {scope : Scope} {f : Addr} {fd : FuncData} {N ps : List Str} {k : Nat} {b : SM} (F : FunD K x qual params body scope [] [] f fd) (S : FnScope N ps scope)
    (hb : ∀ (cdv : Value) (A : Around) (outer : List PySem.Env) (s : Shared) (H : Hp) (E : XK), Room k (A.deeper (envOfC qual scope s.heap.objs.size f cdv)) → Takes (cxF P w K mg base N qual scope f cdv A outer s H E) (WF E) →
      PassesOwn (model P w) (cxF P w K mg base N qual scope f cdv A outer s H E).A (cxF P w K mg base N qual scope f cdv A outer s H E).env (cxF P w K mg base N qual scope f cdv A outer s H E).xe →
      ISs (cxF P w K mg base N qual scope f cdv A outer s H E) (WF E) body b) : FnOk P w K mg base (L2.CX P w) (k + 1) f fd ps (spF w K mg ps.length (fnR N.length b)) := by
  refine F.ok S (fun vs H Q E h => ?_) (fun cdv A outer s H vs Q E hr h => ?_)
  · obtain ⟨_, _, _, h1, _⟩ := h; exact h1
  · obtain ⟨φ, rs, S0, h1, so, q, he⟩ := h
    refine ⟨_, hb cdv A outer s H E hr (takes_of rfl rfl rfl rfl) (passes_of rfl), φ, startR N.length rs, S0, env_start q, so, ?_⟩
    unfold fnR at he
    cases e : b (startR N.length rs) S0 with
    | nx ρ' S' => rw [e] at he; exact fun φ' σ' H' g so' _ => he φ' _ H' g so' .non
    | rt r S' => rw [e] at he; exact he
    | ex y ρ' S' => rw [e] at he; exact fun φ' σ' H' cls dA g so' _ q => he φ' H' cls dA g so' q
    | no => rw [e] at he; exact he
theorem fx_of {P : Program} {w : World} {K : PySem.W.Frag} {mg : Str → Option Value} {base : Heap} {x : Str} {n k : Nat} {F : Fn} {f : Addr} {fd : FuncData} {ps : List Str} (h1 : mg x = some (.ref f)) (h2 : PySem.W.keepIn K (.ref f) = true) (h3 : Binds K fd ps []) (h4 : ps.length = n)
    (h5 : FnOk P w K mg base (L2.CX P w) k f fd ps (spF w K mg n F)) : Fx P w K mg base x n k F := ⟨f, fd, ps, h1, h2, h3, h4, h5⟩

/-! ### calls -/
section
variable {X : Cx} {W : WX} {x : Str} {n k : Nat} {F : Fn} {e : Expr} {es : List Expr} {am : AM} {p pos : Pos}
theorem call_core (h : Fx X.prog X.w X.K X.mg X.base x n k F) (hr : Room k X.A) (tk : Takes X W) (ha : IA X W (e :: es) am) (hg : Gl X x := by rfl) (hdb : (x == ("__debug__" : Str)) = false := by decide)
    (he : starEach (e :: es) X.env = (false, eval e X.env) :: starEach es X.env := by rfl) (hpl : (backTo pos (starEach es X.env)).any (·.1) = false := by rfl) :
    PE X (.Call (.Name x p) (e :: es) [] pos) (tCallS (spF X.w X.K X.mg n F) (WE W) (rdA X.w X.K X.mg W am)) := by
  obtain ⟨f, fd, ps, h1, h2, h3, h4, h5⟩ := h.ex
  exact pe_callS h5 hr hg h1 h2 h3 (fun σ => passAt tk σ) ha hdb he hpl
theorem rd_callS {K : PySem.W.Frag} {mg : Str → Option Value} {σ : L2.St} {H : Hp} {Q : VK} (hn : ∀ ρ S rs S1, am ρ S = .ok rs S1 → rs.length = n) (h : rdE w K mg W (mCallS F am) σ H Q) : tCallS (spF w K mg n F) (WE W) (rdA w K mg W am) σ H Q := by
  obtain ⟨φ, ρ, S, eo, so, h⟩ := h
  refine ⟨φ, ρ, S, eo, so, (EndR.bind h).imp fun rs φ1 S1 H1 ea g1 so1 h1 vs r1 => ?_⟩
  refine ⟨φ1, rs, S1, by rw [RelRs.length r1]; exact hn _ _ _ _ ea, so1, r1, ?_⟩
  cases q : F rs S1 with
  | ok r S2 => rw [q] at h1; exact fun φ' v H' g so' r' => h1 φ' H' g so' v r'
  | ex y S2 => rw [q] at h1; exact fun φ' H' cls dA g so' q' => h1 φ' H' cls dA g so' q'
  | no => rw [q] at h1; exact h1
theorem rd_callP {K : PySem.W.Frag} {mg : Str → Option Value} {σ : L2.St} {H : Hp} {Q : VK} (hn : ∀ ρ S rs S1, am ρ S = .ok rs S1 → rs.length = n) (h : rdE w K mg W (mCallP F am) σ H Q) : tCallS (spF w K mg n F) (WE W) (rdA w K mg W am) σ H Q := by
  obtain ⟨φ, ρ, S, eo, so, h⟩ := h
  refine ⟨φ, ρ, S, eo, so, (EndR.bind h).imp fun rs φ1 S1 H1 ea g1 so1 h1 vs r1 => ?_⟩
  split at h1
  · rename_i ds q
    have df := all_df r1 q
    have rel : RelRs K [] H1 vs (ds.map .d) := df.rel
    refine ⟨[], ds.map .d, [], by rw [RelRs.length r1]; exact hn _ _ _ _ ea, StOk.nil, rel, ?_⟩
    unfold runP at h1
    have same : ∀ {φ' : List Addr} {H' : Hp}, Grow [] H1 φ' H' → L2.Same H1 H' := fun g a o e => g.keep a o e (.inr (by simp))
    cases q2 : F (ds.map .d) [] with
    | ok r S2 =>
      rw [q2] at h1
      cases r with
      | d z => exact fun φ' v H' g so' r' => h1 φ1 H' (Grow.same (same g)) (so1.same (same g)) v r'
      | ref i => exact h1.elim
    | ex y S2 =>
      rw [q2] at h1
      exact fun φ' H' cls dA g so' q' => h1 φ1 H' cls dA (Grow.same (same g)) (so1.same (same g)) q'
    | no => rw [q2] at h1; exact h1
  · exact h1.elim
theorem i_callP (h : Fx X.prog X.w X.K X.mg X.base x n k F) (hr : Room k X.A) (tk : Takes X W) (ha : IA X W (e :: es) am) (hn : ∀ ρ S rs S1, am ρ S = .ok rs S1 → rs.length = n) (hg : Gl X x := by rfl) (hdb : (x == ("__debug__" : Str)) = false := by decide)
    (he : starEach (e :: es) X.env = (false, eval e X.env) :: starEach es X.env := by rfl) (hpl : (backTo pos (starEach es X.env)).any (·.1) = false := by rfl) : IE X W (.Call (.Name x p) (e :: es) [] pos) (mCallP F am) :=
  PE.imp (call_core h hr tk ha hg hdb he hpl) fun _ _ _ h => rd_callP hn h
theorem i_callS (h : Fx X.prog X.w X.K X.mg X.base x n k F) (hr : Room k X.A) (tk : Takes X W) (ha : IA X W (e :: es) am) (hn : ∀ ρ S rs S1, am ρ S = .ok rs S1 → rs.length = n) (hg : Gl X x := by rfl) (hdb : (x == ("__debug__" : Str)) = false := by decide)
    (he : starEach (e :: es) X.env = (false, eval e X.env) :: starEach es X.env := by rfl) (hpl : (backTo pos (starEach es X.env)).any (·.1) = false := by rfl) : IE X W (.Call (.Name x p) (e :: es) [] pos) (mCallS F am) :=
  PE.imp (call_core h hr tk ha hg hdb he hpl) fun _ _ _ h => rd_callS hn h
theorem len_nil : ∀ ρ S rs S1, mNil ρ S = .ok rs S1 → rs.length = 0 := fun ρ S rs S1 h => by cases h; rfl
theorem len_cons {a : EM} {r : AM} {n : Nat} (hr : ∀ ρ S rs S1, r ρ S = .ok rs S1 → rs.length = n) : ∀ ρ S rs S1, mCons a r ρ S = .ok rs S1 → rs.length = n + 1 := fun ρ S rs S1 h => by
  obtain ⟨x, S2, _, h2⟩ := bind_okE h
  obtain ⟨xs, S3, h3, h4⟩ := bind_okE h2
  cases h4
  rw [List.length_cons, hr _ _ _ _ h3]
end
end Pi

set_option Elab.async false
set_option linter.all false
set_option maxRecDepth 100000
/-! Pi6: operators and builtins over plain data. -/
namespace Pi
open PySem PySem.Spec PyProof.Rows L2

/-! ### what they give -/
def mulOk (a b : Int) : Bool := decide (-(2 ^ 64) < a ∧ a < 2 ^ 64) || decide (-(2 ^ 64) < b ∧ b < 2 ^ 64) || decide (a.natAbs.log2 + b.natAbs.log2 < 1000000)
def addD : D → D → Option D
  | .int a, .int b => some (.int (a + b))
  | .str a, .str b => if a.length + b.length ≤ sizeLine then some (.str (a ++ b)) else none
  | .tuple xs, .tuple ys => if xs.length + ys.length ≤ sizeLine then some (.tuple (xs ++ ys)) else none
  | .list xs, .list ys => if xs.length + ys.length ≤ sizeLine then some (.list (xs ++ ys)) else none
  | _, _ => none
def subD : D → D → Option D
  | .int a, .int b => some (.int (a - b))
  | _, _ => none
def repD (xs : List D) (k : Int) : List D := (List.replicate k.toNat xs).flatten
def mulD : D → D → Option D
  | .int a, .int b => if mulOk a b then some (.int (a * b)) else none
  | .tuple xs, .int k => if decide (-(2 ^ 63) ≤ k) && decide (k < 2 ^ 63) && decide (xs.length * k.toNat ≤ sizeLine) then some (.tuple (repD xs k)) else none
  | .list xs, .int k => if decide (-(2 ^ 63) ≤ k) && decide (k < 2 ^ 63) && decide (xs.length * k.toNat ≤ sizeLine) then some (.list (repD xs k)) else none
  | _, _ => none
def divD : D → D → Option D
  | .int a, .int b => if decide (0 < b) && decide (b.natAbs.log2 < 9000) then some (.int (a / b)) else none
  | _, _ => none
def modD : D → D → Option D
  | .int a, .int b => if 0 < b then some (.int (a % b)) else none
  | _, _ => none
def powD : D → D → Option D
  | .int a, .int b => if decide (0 ≤ b) && decide (b ≤ 1000000) && decide (a.natAbs < 2 ^ 64) then some (.int (a ^ b.toNat)) else none
  | _, _ => none
def flatP : D → Bool
  | .none => true
  | .bool _ => true
  | .int _ => true
  | .str _ => true
  | _ => false
def eqB (a b : D) : Option Bool := if flatP a && flatP b then some (PyData.eqv a b) else if SeqAt.shaped a && SeqAt.shaped b then some (PyData.eqv a b) else none
def eqD (a b : D) : Option D := (eqB a b).map .bool
def neD (a b : D) : Option D := (eqB a b).map fun k => .bool (!k)
def ltD : D → D → Option D
  | .int a, .int b => some (.bool (decide (a < b)))
  | .str a, .str b => some (.bool (decide (a.cps.toList < b.cps.toList)))
  | .tuple xs, .tuple ys => if PySem.W.alike (.tuple xs) (.tuple ys) && decide ((PyData.tuple xs).depth ≤ 64) then some (.bool (PySem.W.dataLt (.tuple xs) (.tuple ys))) else none
  | _, _ => none
def leD : D → D → Option D
  | .int a, .int b => some (.bool (decide (a ≤ b)))
  | _, _ => none
def gtD : D → D → Option D
  | .int a, .int b => some (.bool (decide (b < a)))
  | _, _ => none
def geD : D → D → Option D
  | .int a, .int b => some (.bool (decide (b ≤ a)))
  | _, _ => none
def isNon : D → Bool
  | .none => true
  | _ => false
def isNoneD (d : D) : Option D := some (.bool (isNon d))
def notNoneD (d : D) : Option D := some (.bool (!isNon d))
def isBD : D → D → Option D
  | .bool a, .bool b => some (.bool (decide (a = b)))
  | _, _ => none
def notBD : D → D → Option D
  | .bool a, .bool b => some (.bool (!decide (a = b)))
  | _, _ => none
def inB (x : D) : D → Option Bool
  | .list ys => if flatP x && ys.all flatP then some (ys.any fun y => PyData.eqv y x) else if SeqAt.shaped x && SeqAt.shaped (.list ys) then some (ys.any fun y => PyData.eqv y x) else none
  | .tuple ys => if flatP x && ys.all flatP then some (ys.any fun y => PyData.eqv y x) else none
  | .str z => match x with
    | .str ⟨⟨[c]⟩⟩ => some (decide (c ∈ z.cps.toList))
    | _ => none
  | _ => none
def inD (x y : D) : Option D := (inB x y).map .bool
def notInD (x y : D) : Option D := (inB x y).map fun k => .bool (!k)
def isD (T : String) (d : D) : Bool := match d with
  | .none => T == "NoneType"
  | .bool _ => T == "bool" || T == "int"
  | .int _ => T == "int"
  | .str _ => T == "str"
  | .list _ => T == "list"
  | .tuple _ => T == "tuple"
  | .dict _ => T == "dict"
def isiD (T : String) (d : D) : Option D := some (.bool (isD T d))
def ixN (n : Nat) (i : Int) : Option Nat := L2.ixN n i
def atD (xs : List D) (i : Int) : Option D := match L2.ixN xs.length i with
  | some j => xs[j]?
  | none => none
def ixD : D → D → Option D
  | .list xs, .int i => atD xs i
  | .tuple xs, .int i => atD xs i
  | .str z, .int i => if z.length ≤ sizeLine then (match L2.ixN z.cps.toList.length i with
    | some j => (z.cps.toList[j]?).map fun c => .str ⟨#[c]⟩
    | none => none) else none
  | _, _ => none
def lenD : List D → Option D
  | [.list xs] => some (.int xs.length)
  | [.tuple xs] => some (.int xs.length)
  | [.str x] => if x.length ≤ sizeLine then some (.int x.length) else none
  | _ => none
def absD : List D → Option D
  | [.int i] => some (.int (if i < 0 then -i else i))
  | _ => none
def boolsD : List D → Option (List Bool)
  | [] => some []
  | .bool b :: r => (boolsD r).map (b :: ·)
  | _ :: _ => none
def intsD : List D → Option (List Int)
  | [] => some []
  | .int b :: r => (intsD r).map (b :: ·)
  | _ :: _ => none
def allD1 : List D → Option D
  | [.list xs] => (boolsD xs).map fun bs => .bool (bs.all id)
  | _ => none
def anyD1 : List D → Option D
  | [.list xs] => (boolsD xs).map fun bs => .bool (bs.any id)
  | _ => none
def maxI : List Int → Int
  | [] => 0
  | [x] => x
  | x :: r => max x (maxI r)
def minI : List Int → Int
  | [] => 0
  | [x] => x
  | x :: r => min x (minI r)
def minOf (xs : List D) : Option D := match intsD xs with
  | some (x :: r) => some (.int (minI (x :: r)))
  | _ => none
def maxOf (xs : List D) : Option D := match intsD xs with
  | some (x :: r) => some (.int (maxI (x :: r)))
  | _ => none
def minD : List D → Option D
  | [.int a, .int b] => some (.int (min a b))
  | [.list xs] => minOf xs
  | [.tuple xs] => minOf xs
  | _ => none
def maxD : List D → Option D
  | [.int a, .int b] => some (.int (max a b))
  | [.list xs] => maxOf xs
  | [.tuple xs] => maxOf xs
  | _ => none
def sumD : List D → Option D
  | [.list xs] => (intsD xs).map fun ns => .int ns.sum
  | [.tuple xs] => (intsD xs).map fun ns => .int ns.sum
  | _ => none
def intD : List D → Option D
  | [.int i] => some (.int i)
  | [.bool b] => some (.int (if b then 1 else 0))
  | _ => none
def tupleD : List D → Option D
  | [.list xs] => some (.tuple xs)
  | [.tuple xs] => some (.tuple xs)
  | _ => none
def listD : List D → Option (List D)
  | [.list xs] => some xs
  | [.tuple xs] => some xs
  | _ => none

/-! ### what may be a new list too -/
def opRdF (K : PySem.W.Frag) (g : D → D → Option D) : R2 := fun x y H Q => ∃ d1 d2 z, Dn K H x d1 ∧ Dn K H y d2 ∧ g d1 d2 = some z ∧ (∀ v H', L2.Same H H' → Df K H' v z → Q v H') ∧
  ∀ p vs zs H', z = .list zs → L2.Same H H' → H p = none → H' p = some (.lst vs) → DfAll K H' vs zs → Q (.ref p) H'
def QF (Q : VK) : VK := fun v H1 => Q v H1 ∨ ∃ a xs, v = .ref a ∧ H1 a = some (.lst xs) ∧ ∀ o, Q v (upd H1 a (.frz o (.lst xs)))
section
variable {X : Cx} {W : WX} {a b e : Expr} {ma mb : EM} {pos : Pos}
theorem OpR.toF {f : Value → Value → Sem Value} {K : PySem.W.Frag} {g : D → D → Option D} (h : OpR X f (opRd K g)) : OpR X f (opRdF K g) := fun pins s σ H x y v u Q I rx ry ⟨d1, d2, z, h1, h2, h3, h4, _⟩ => h pins s σ H x y v u Q I rx ry ⟨d1, d2, z, h1, h2, h3, h4⟩
theorem pe_frzF {t : TE} (h : PE X e t) : PE X e (fun σ H Q => t σ H (QF Q)) := by
  refine ⟨fun pins s σ H Q I q => thn (h.run pins s σ H _ I q) fun u s1 ⟨v, H1, I1, r, q⟩ => ?_⟩
  rcases q with q | ⟨a, xs, e, ea, q⟩
  · exact ⟨v, H1, I1, r, q⟩
  · obtain ⟨o, I2⟩ := I1.freeze ea
    exact ⟨v, _, I2, r, q o⟩
theorem same_frz {H H' : Hp} {p : Addr} {o : HO} (s : L2.Same H H') (n : H p = none) : L2.Same H (upd H' p o) := fun c u e => by rw [upd_ne (ne_of_none e n)]; exact s c u e
theorem rd_op2F {K : PySem.W.Frag} {mg : Str → Option Value} {g : D → D → Option D} {σ : L2.St} {H : Hp} {Q : VK} (h : rdE w K mg W (mOp2 g ma mb) σ H Q) : tOp (opRdF K g) (rdE w K mg W ma) (rdE w K mg W mb) σ H (QF Q) := by
  obtain ⟨φ, ρ, S, eo, so, h⟩ := h
  refine ⟨φ, ρ, S, eo, so, (EndR.bind h).imp fun x φ1 S1 H1 _ g1 so1 h1 v1 r1 => ?_⟩
  refine ⟨φ1, ρ, S1, eo.grow g1, so1, (EndR.bind h1).imp fun y φ2 S2 H2 _ g2 so2 h2 v2 r2 => ?_⟩
  split at h2
  · rename_i x' y' q1 q2
    split at h2
    · rename_i z q3
      refine ⟨x', y', z, (r1.grow g2).rd so2 q1, r2.rd so2 q2, q3, fun v H' s d => .inl (h2 φ2 H' (Grow.same s) (so2.same s) v d), fun p vs zs H' ez s n ep df => .inr ⟨p, vs, rfl, ep, fun o => ?_⟩⟩
      subst ez
      have s' : L2.Same H2 (upd H' p (.frz o (.lst vs))) := same_frz s n
      exact h2 φ2 _ (Grow.same s') (so2.same s') _ (.lst (.inl ⟨o, upd_same⟩) (DfAll.mono (upd_stab ep rfl) df))
    · exact h2.elim
  · exact h2.elim
theorem i_bin {op : Operator} {g : D → D → Option D} (ho : OpR X (binaryOp op) (opRdF X.K g)) (ha : IE X W a ma) (hb : IE X W b mb) : IE X W (.BinOp a op b pos) (mOp2 g ma mb) :=
  PE.imp (pe_frzF (pe_op ho ha hb)) fun _ _ _ h => rd_op2F h
end

/-! ### the rules -/
section
variable {X : Cx}
theorem Dn.tuple_ref {K : PySem.W.Frag} {H : Hp} {v : V} {ds : List D} (h : Dn K H v (.tuple ds)) : ∃ a xs, v = .ref a ∧ FzT H a xs ∧ DfAll K H xs ds := h.tup_at
theorem df_nil {K : PySem.W.Frag} {H : Hp} {xs : List V} {ds : List D} (h : DfAll K H xs ds) : xs = [] ↔ ds = [] := by cases h <;> simp
theorem new_tup {K : PySem.W.Frag} {H : Hp} {p : Addr} {o : Obj} {xs : List V} {ds : List D} (hp : H p = none) (ho : o.dict = none) (h : DfAll K H xs ds) : L2.Same H (upd H p (.frz o (.tup xs))) ∧ Df K (upd H p (.frz o (.tup xs))) (.ref p) (.tuple ds) := by
  have s : L2.Same H (upd H p (.frz o (.tup xs))) := fun c o e => by rw [upd_ne (ne_of_none e hp)]; exact e
  exact ⟨s, .tup ⟨o, upd_same, ho⟩ (DfAll.mono (Same.stab s) h)⟩
/-- a tuple, as an operation has laid it -/
theorem got_tup {pins : List (Addr × Obj)} {σ : L2.St} {H : Hp} {s : Shared} {xs : List V} {us : List Value} {ds : List D} {Q : VK} (I : Inv X pins σ H s) (z : xs.length ≤ sizeLine) (r : Vals xs us) (t : DfAll X.K H xs ds)
    (q : ∀ v H', L2.Same H H' → Df X.K H' v (.tuple ds) → Q v H') : EP X pins σ Q (.ref s.heap.objs.size) { s with heap := s.heap.push { cls := .type "tuple", data := .seq us.toArray } } := by
  obtain ⟨sm, d⟩ := new_tup (o := { cls := .type "tuple", data := .seq us.toArray }) I.fresh rfl t
  exact ⟨.ref s.heap.objs.size, _, laid_tup (tk := s.toks) I z r, rfl, q _ _ sm d⟩
theorem new_lst {K : PySem.W.Frag} {H : Hp} {p : Addr} {xs : List V} {ds : List D} (hp : H p = none) (h : DfAll K H xs ds) : L2.Same H (upd H p (.lst xs)) ∧ DfAll K (upd H p (.lst xs)) xs ds := by
  have s : L2.Same H (upd H p (.lst xs)) := fun c o e => by rw [upd_ne (ne_of_none e hp)]; exact e
  exact ⟨s, DfAll.mono (Same.stab s) h⟩
/-- a list may be live or frozen: HandS's + and * of lists ask live ones; these read either -/
theorem cat_any {pins : List (Addr × Obj)} {s : Shared} {σ : L2.St} {H : Hp} {l b : Addr} {xs zs : List V} {Q : VK} (I : Inv X pins σ H s) (h1 : SqL X.K H l xs) (h2 : SqL X.K H b zs) (hz : xs.length + zs.length ≤ sizeLine)
    (q : ∀ p, H p = none → Q (.ref p) (upd H p (.lst (xs ++ zs)))) : wpAny (model X.prog X.w) X.A (binaryOp .Add (.ref l) (.ref b)) (EP X pins σ Q) X.xe s := by
  obtain ⟨its, r, pl, _⟩ := I.list h1
  obtain ⟨its2, r2, pl2, _⟩ := I.list h2
  obtain ⟨⟨cls, dd, data, sl⟩, n, ho, hc, _, hd⟩ := pl
  obtain ⟨⟨cls2, dd2, data2, sl2⟩, n2, ho2, hc2, _, hd2⟩ := pl2
  simp only at hc hd hc2 hd2
  subst hc hd hc2 hd2
  have hl : xs.length = its.length := r.length
  have hl2 : zs.length = its2.length := r2.length
  have e : its.toArray ++ its2.toArray = (its ++ its2).toArray := by simp
  refine concat_meets ⟨_, ho, rfl⟩ ⟨_, ho2, rfl⟩ noFill_list_add seq_list_add PySem.F.slot_list_add PySem.F.entry_list_add (PySem.F.args_list_add_2 _ _) (list_addW l b its.toArray its2.toArray n n2 dd dd2 sl sl2 (by simp; omega)) ⟨ho, ho2, ?_⟩
  rw [e]
  exact ⟨.ref _, _, I.lnew (t' := s.toks) (r.append r2) (by rw [List.length_append]; exact hz), rfl, q _ I.fresh⟩
theorem o_add : OpR X (binaryOp .Add) (opRdF X.K addD) := by
  intro pins s σ H x y v u Q I rx ry h
  obtain ⟨d1, d2, z, h1, h2, e, q, qL⟩ := h
  unfold addD at e
  split at e
  · cases e; cases h1.int_eq; cases h2.int_eq
    exact op_add pins s σ H _ _ v u Q I rx ry ⟨_, _, rfl, rfl, q _ H (L2.Same.refl _) (.int _)⟩
  · split at e
    · rename_i hz
      cases e; cases h1.str_eq; cases h2.str_eq
      exact op_add_str pins s σ H _ _ v u Q I rx ry ⟨_, _, rfl, rfl, hz, q _ H (L2.Same.refl _) (.str _)⟩
    · cases e
  · split at e
    · rename_i hz
      cases e
      obtain ⟨a, xs, rfl, s1, t1⟩ := h1.tup_at
      obtain ⟨b, ys, rfl, s2, t2⟩ := h2.tup_at
      cases rx; cases ry
      obtain ⟨its, r1, p1, _⟩ := I.tuple s1.sq
      obtain ⟨its2, r2, p2, _⟩ := I.tuple s2.sq
      by_cases hx : its = []
      · subst hx
        cases r1; cases t1
        exact cat_tup0 p1 p2 ⟨.ref b, H, I, rfl, q _ H (L2.Same.refl _) (by simpa using Df.tup s2 t2)⟩
      · refine HT.cat_tup p1 p2 hx (fun hy => ?_) (fun _ => got_tup I (by rw [List.length_append, t1.length, t2.length]; exact hz) (r1.append r2) (t1.append t2) q) (by rw [← r1.length, ← r2.length, t1.length, t2.length]; exact hz)
        subst hy
        cases r2; cases t2
        exact ⟨.ref a, H, I, rfl, q _ H (L2.Same.refl _) (by simpa using Df.tup s1 t1)⟩
    · cases e
  · split at e
    · rename_i hz
      cases e
      obtain ⟨a, xs, rfl, s1, t1⟩ := h1.list_at
      obtain ⟨b, ys, rfl, s2, t2⟩ := h2.list_at
      cases rx; cases ry
      refine cat_any I s1 s2 (by rw [t1.length, t2.length]; exact hz) fun p hp => ?_
      obtain ⟨sm, d⟩ := new_lst hp (t1.append t2)
      exact qL p _ _ _ rfl sm hp upd_same d
    · cases e
  · cases e
theorem o_sub : OpR X (binaryOp .Sub) (opRdF X.K subD) := by
  intro pins s σ H x y v u Q I rx ry h
  obtain ⟨d1, d2, z, h1, h2, e, q, qL⟩ := h
  unfold subD at e
  split at e
  · cases e; cases h1.int_eq; cases h2.int_eq
    exact op_sub pins s σ H _ _ v u Q I rx ry ⟨_, _, rfl, rfl, q _ H (L2.Same.refl _) (.int _)⟩
  · cases e
theorem o_div : OpR X (binaryOp .FloorDiv) (opRdF X.K divD) := by
  intro pins s σ H x y v u Q I rx ry h
  obtain ⟨d1, d2, z, h1, h2, e, q, qL⟩ := h
  unfold divD at e
  split at e
  · split at e
    · rename_i hz
      rw [Bool.and_eq_true] at hz
      cases e; cases h1.int_eq; cases h2.int_eq
      exact op_fdivW pins s σ H _ _ v u Q I rx ry ⟨_, _, rfl, rfl, ⟨of_decide_eq_true hz.1, of_decide_eq_true hz.2⟩, q _ H (L2.Same.refl _) (.int _)⟩
    · cases e
  · cases e
theorem o_mod : OpR X (binaryOp .Mod) (opRdF X.K modD) := by
  intro pins s σ H x y v u Q I rx ry h
  obtain ⟨d1, d2, z, h1, h2, e, q, qL⟩ := h
  unfold modD at e
  split at e
  · split at e
    · rename_i hz
      cases e; cases h1.int_eq; cases h2.int_eq
      exact op_mod pins s σ H _ _ v u Q I rx ry ⟨_, _, rfl, rfl, hz, q _ H (L2.Same.refl _) (.int _)⟩
    · cases e
  · cases e
theorem o_pow : OpR X (binaryOp .Pow) (opRdF X.K powD) := by
  intro pins s σ H x y v u Q I rx ry h
  obtain ⟨d1, d2, z, h1, h2, e, q, qL⟩ := h
  unfold powD at e
  split at e
  · split at e
    · rename_i hz
      rw [Bool.and_eq_true, Bool.and_eq_true] at hz
      cases e; cases h1.int_eq; cases h2.int_eq
      exact op_pow pins s σ H _ _ v u Q I rx ry ⟨_, _, rfl, rfl, ⟨of_decide_eq_true hz.1.1, of_decide_eq_true hz.1.2, of_decide_eq_true hz.2⟩, q _ H (L2.Same.refl _) (.int _)⟩
    · cases e
  · cases e
end
/-! ### tuple * int, list * int -/
theorem tuple_mulS (l : Addr) (items : Array Value) (n : Nat) (dd : Option Addr) (sl : Array (Option Value)) (x : Int) (u : Tok) (c0 : (decide (x < -(2 ^ 63)) || decide (x ≥ 2 ^ 63)) = false) (c1 : (items.isEmpty || x == 1) = true) :
    Meets (Builtin.«tuple.__mul__» ⟨[.ref l, .int x u], []⟩) (fun _ R s => s.heap.get? l = some { cls := .type "tuple", dict := dd, data := .seq items n, slots := sl } ∧ R (.ok (.ret (Value.ref l))) s) :=
  .of_wp fun prog w A R s h => by
    obtain ⟨hp, g, d, tk, os⟩ := s
    obtain ⟨hl, h⟩ := h
    have f1 := AutoSeq1.idx_int
    wp_walk using wpAny_loadPart' hl
    repeat (first
      | (refine wpAny_ite_false (decide_eq_false (by rw [c0]; exact Bool.false_ne_true)) ?_; wp_walk using wpAny_loadPart' hl)
      | (refine wpAny_ite_true (decide_eq_true c1) ?_; wp_walk using wpAny_loadPart' hl))
    exact ⟨_, rfl, h⟩
theorem tuple_mulE (l : Addr) (items : Array Value) (n : Nat) (dd : Option Addr) (sl : Array (Option Value)) (x : Int) (u : Tok) (c0 : (decide (x < -(2 ^ 63)) || decide (x ≥ 2 ^ 63)) = false) (c1 : (items.isEmpty || x == 1) = false) (c2 : (decide (x ≤ 0) || items.isEmpty) = true) :
    Meets (Builtin.«tuple.__mul__» ⟨[.ref l, .int x u], []⟩) (fun _ R s => s.heap.get? l = some { cls := .type "tuple", dict := dd, data := .seq items n, slots := sl } ∧
      R (.ok (.ret (Value.ref s.heap.objs.size))) { s with heap := s.heap.push { cls := Value.type "tuple", data := Data.seq #[] }, toks := s.toks }) :=
  .of_wp fun prog w A R s h => by
    obtain ⟨hp, g, d, tk, os⟩ := s
    obtain ⟨hl, h⟩ := h
    have f1 := AutoSeq1.idx_int
    wp_walk using wpAny_loadPart' hl
    repeat (first
      | (refine wpAny_ite_false (decide_eq_false (by rw [c0]; exact Bool.false_ne_true)) ?_; wp_walk using wpAny_loadPart' hl)
      | (refine wpAny_ite_false (decide_eq_false (by rw [c1]; exact Bool.false_ne_true)) ?_; wp_walk using wpAny_loadPart' hl)
      | (refine wpAny_ite_true (decide_eq_true c2) ?_; wp_walk using wpAny_loadPart' hl))
    exact ⟨_, rfl, h⟩
theorem rep_flat {K : PySem.W.Frag} {H : Hp} {xs : List V} {ds : List D} (t : DfAll K H xs ds) : ∀ m : Nat, DfAll K H (List.replicate m xs).flatten (List.replicate m ds).flatten
  | 0 => .nil
  | m + 1 => by
    rw [List.replicate_succ, List.replicate_succ, List.flatten_cons, List.flatten_cons]
    exact t.append (rep_flat t m)
theorem len_rep {α : Type} (xs : List α) : ∀ m : Nat, (List.replicate m xs).flatten.length = xs.length * m
  | 0 => rfl
  | m + 1 => by rw [List.replicate_succ, List.flatten_cons, List.length_append, len_rep xs m, Nat.mul_succ]; omega
section
variable {X : Cx}
theorem o_mul : OpR X (binaryOp .Mult) (opRdF X.K mulD) := by
  intro pins s σ H x y v u Q I rx ry h
  obtain ⟨d1, d2, z, h1, h2, e, q, qL⟩ := h
  unfold mulD at e
  split at e
  · split at e
    · rename_i a b hz
      cases e; cases h1.int_eq; cases h2.int_eq
      have q' := q _ H (L2.Same.refl _) (.int _)
      unfold mulOk at hz
      rw [Bool.or_eq_true, Bool.or_eq_true] at hz
      rcases hz with (hz | hz) | hz
      · exact op_mul pins s σ H _ _ v u Q I rx ry ⟨_, _, rfl, rfl, .inl (of_decide_eq_true hz), q'⟩
      · exact op_mul pins s σ H _ _ v u Q I rx ry ⟨_, _, rfl, rfl, .inr (of_decide_eq_true hz), q'⟩
      · exact op_mulW pins s σ H _ _ v u Q I rx ry ⟨_, _, rfl, rfl, (show CMulW a b from (of_decide_eq_true hz : a.natAbs.log2 + b.natAbs.log2 < 1000000)), q'⟩
    · cases e
  · split at e
    · rename_i ds k hz
      rw [Bool.and_eq_true, Bool.and_eq_true] at hz
      have k1 := of_decide_eq_true hz.1.1
      have k2 := of_decide_eq_true hz.1.2
      have k3 := of_decide_eq_true hz.2
      cases e
      cases h2.int_eq
      obtain ⟨l, xs, rfl, hT, t1⟩ := h1.tup_at
      cases rx
      obtain ⟨t, rfl⟩ := ry
      obtain ⟨its, r, ⟨⟨cls, dd, data, sl⟩, ho, hc, n, hd⟩, hs⟩ := I.tuple hT.sq
      simp only at hc hd
      subst hc hd
      have hle : its.length = xs.length := r.length.symm
      have hle2 : xs.length = ds.length := t1.length
      have c0 : (decide (k < -(2 ^ 63)) || decide (k ≥ 2 ^ 63)) = false := by
        rw [decide_eq_false (by omega), decide_eq_false (by omega)] <;> rfl
      have go : ∀ {R : Result → Shared → Prop}, wpAny (model X.prog X.w) X.A (call (.builtin "tuple.__mul__") [.ref l, .int k t]) (EP X pins σ Q) X.xe s → wpAny (model X.prog X.w) X.A (binaryOp .Mult (.ref l) (.int k t)) (EP X pins σ Q) X.xe s := fun hq => by
        refine wpAny_binaryOp_repeat_ref (T := "tuple") (U := "int") (by decide) ⟨_, ho, rfl⟩ (fun s' => typeIs_int s' k t) noFill_tuple_mul F.fills_int_mul F.slot_int_rmul repeat_tuple F.slot_int_index.lookup
          (call_meets F.slot_int_rmul (typeIs_int s k t) F.entry_int_rmul (F.args_int_rmul_2 _ _) (int_rmul_tuple k t l its.toArray n dd sl) ⟨ho, rfl, ⟨_, ho, rfl⟩, hq⟩)
      refine go (R := fun _ _ => True) ?_
      by_cases hc1 : (its.toArray.isEmpty || k == 1) = true
      · refine call_meets F.slot_tuple_mul ⟨_, ho, rfl⟩ F.entry_tuple_mul (F.args_tuple_mul_2 _ _) (tuple_mulS l its.toArray n dd sl k t c0 hc1) ⟨ho, ?_⟩
        have same : repD ds k = ds := by
          rcases Bool.or_eq_true_iff.mp hc1 with z | z
          · have : its = [] := by simpa using z
            subst this
            have : ds = [] := List.eq_nil_of_length_eq_zero (by simp at hle; omega)
            subst this
            unfold repD
            generalize k.toNat = m
            induction m with
            | zero => rfl
            | succ m ih => rw [List.replicate_succ, List.flatten_cons, ih]; rfl
          · have : k = 1 := by simpa using z
            subst this
            simp [repD]
        exact ⟨.ref l, H, I, rfl, q _ H (L2.Same.refl _) (by rw [same]; exact .tup hT t1)⟩
      · have hc1' : (its.toArray.isEmpty || k == 1) = false := by simpa using hc1
        have hemp : its.toArray.isEmpty = false := (Bool.or_eq_false_iff.mp hc1').1
        by_cases hk : k ≤ 0
        · have c2 : (decide (k ≤ 0) || its.toArray.isEmpty) = true := by rw [decide_eq_true hk]; rfl
          refine call_meets F.slot_tuple_mul ⟨_, ho, rfl⟩ F.entry_tuple_mul (F.args_tuple_mul_2 _ _) (tuple_mulE l its.toArray n dd sl k t c0 hc1' c2) ⟨ho, ?_⟩
          have hkk : k.toNat = 0 := by omega
          refine got_tup (us := []) I (Nat.zero_le _) .nil DfAll.nil fun v H' sm d => q v H' sm ?_
          unfold repD
          rw [hkk]
          exact d
        · have c2 : (decide (k ≤ 0) || its.toArray.isEmpty) = false := by rw [decide_eq_false hk, hemp]; rfl
          have hsz : its.toArray.size = its.length := by simp
          have hm : its.length * k.toNat ≤ sizeLine := by rw [hle, hle2]; exact k3
          have hmi : ((its.toArray.size : Nat) : Int) * k = ((its.length * k.toNat : Nat) : Int) := by
            rw [hsz, Int.natCast_mul, Int.toNat_of_nonneg (by omega)]
          rw [sizeLine_eq] at hm
          refine call_meets F.slot_tuple_mul ⟨_, ho, rfl⟩ F.entry_tuple_mul (F.args_tuple_mul_2 _ _) (tuple_mulW l its.toArray n dd sl k t c0 hc1' c2 (by rw [hmi]; omega) (by
            unfold Builtin.Tuple.tupleTooMany
            rw [hmi, sizeLine_eq]
            exact decide_eq_false (by omega)) (by rw [size_rep, List.size_toArray, len_rep, sizeLine_eq]; exact hm)) ⟨ho, ?_⟩
          rw [size_rep]
          exact got_tup I (by rw [len_rep, hle2]; exact k3) (r.rep k.toNat) (rep_flat t1 k.toNat) q
    · cases e
  · split at e
    · rename_i ds k hz
      rw [Bool.and_eq_true, Bool.and_eq_true] at hz
      have k1 := of_decide_eq_true hz.1.1
      have k2 := of_decide_eq_true hz.1.2
      have k3 := of_decide_eq_true hz.2
      cases e
      cases h2.int_eq
      obtain ⟨l, xs, rfl, hL, t1⟩ := h1.list_at
      cases rx
      obtain ⟨t, rfl⟩ := ry
      obtain ⟨its, r, ⟨⟨cls, dd, data, sl⟩, n, ho, hc, _, hd⟩, hs⟩ := I.list hL
      simp only at hc hd
      subst hc hd
      have hle : its.length = xs.length := r.length.symm
      have hle2 : xs.length = ds.length := t1.length
      have hm : its.length * k.toNat ≤ sizeLine := by rw [hle, hle2]; exact k3
      have hm2 := hm
      rw [sizeLine_eq] at hm2
      have hsz' : its.toArray.size * k.toNat ≤ 2 ^ 24 := by simpa using hm2
      refine wpAny_binaryOp_repeat_ref (T := "list") (U := "int") (by decide) ⟨_, ho, rfl⟩ (fun s' => typeIs_int s' k t) noFill_list_mul F.fills_int_mul F.slot_int_rmul repeat_list F.slot_int_index.lookup
        (call_meets F.slot_int_rmul (typeIs_int s k t) F.entry_int_rmul (F.args_int_rmul_2 _ _) (lm_int_rmul_list_any k t l its.toArray n dd sl)
          ⟨ho, rfl, ⟨_, ho, rfl⟩, call_meets F.slot_list_mul ⟨_, ho, rfl⟩ F.entry_list_mul (F.args_list_mul_2 _ _)
            (lm_list_mul_any l its.toArray n dd sl k t (by simp [Builtin.List.listFitsIndex]; omega) (by omega) (by simp [Builtin.List.listTooLong, sizeLine]; omega))
            ⟨ho, ?_⟩⟩)
      rw [listMul_foldl_if]
      obtain ⟨sm, d⟩ := new_lst (K := X.K) I.fresh (rep_flat t1 k.toNat)
      exact ⟨.ref _, _, I.lnew (t' := s.toks) (r.rep k.toNat) (by rw [len_rep, hle2]; exact k3), rfl, qL _ _ _ _ rfl sm I.fresh upd_same d⟩
    · cases e
  · cases e
end
end Pi

set_option Elab.async false
set_option linter.all false
set_option maxRecDepth 100000
/-! Pi7: comparisons, subscripts, builtins. -/
namespace Pi
open PySem PySem.Spec PyProof.Rows L2

section
variable {X : Cx}
theorem Dn.reads {pins : List (Addr × Obj)} {σ : L2.St} {H : Hp} {s : Shared} {v : V} {d : D} {u : Value} (I : Inv X pins σ H s) (h : Dn X.K H v d) (r : RelV v u) : ∃ as, Reads s.heap u d as := Dp.reads I d v u h.dp r
theorem flat_shaped {a : D} (f : flatP a = true) (h : ∀ z, a ≠ .str z) : SeqAt.shaped a = true := by
  cases a with
  | none => simp [SeqAt.shaped, PyData.canLay0, PyData.depth]
  | bool _ => simp [SeqAt.shaped, PyData.canLay0, PyData.depth]
  | int _ => simp [SeqAt.shaped, PyData.canLay0, PyData.depth]
  | str z => exact absurd rfl (h z)
  | _ => cases f
theorem flat_v {K : PySem.W.Frag} {H : Hp} {x : V} {a : D} (h : Dn K H x a) (f : flatP a = true) : flatV x = true := by
  cases a with
  | none => cases h.none_eq; rfl
  | bool _ => cases h.bool_eq; rfl
  | int _ => cases h.int_eq; rfl
  | str _ => cases h.str_eq; rfl
  | _ => cases f
theorem flat_eqv {K : PySem.W.Frag} {H : Hp} {x y : V} {a b : D} (h1 : Dn K H x a) (h2 : Dn K H y b) (f1 : flatP a = true) (f2 : flatP b = true) : eqV x y = PyData.eqv a b := by
  cases a with
  | none => cases h1.none_eq; cases b with
    | none => cases h2.none_eq; simp [eqV, PyData.eqv]
    | bool _ => cases h2.bool_eq; simp [eqV, PyData.eqv]
    | int _ => cases h2.int_eq; simp [eqV, PyData.eqv]
    | str _ => cases h2.str_eq; simp [eqV, PyData.eqv]
    | _ => cases f2
  | bool _ => cases h1.bool_eq; cases b with
    | none => cases h2.none_eq; simp [eqV, PyData.eqv]
    | bool _ => cases h2.bool_eq; simp [eqV, PyData.eqv]
    | int _ => cases h2.int_eq; simp [eqV, PyData.eqv]
    | str _ => cases h2.str_eq; simp [eqV, PyData.eqv]
    | _ => cases f2
  | int _ => cases h1.int_eq; cases b with
    | none => cases h2.none_eq; simp [eqV, PyData.eqv]
    | bool _ => cases h2.bool_eq; simp [eqV, PyData.eqv]
    | int _ => cases h2.int_eq; simp [eqV, PyData.eqv]
    | str _ => cases h2.str_eq; simp [eqV, PyData.eqv]
    | _ => cases f2
  | str _ => cases h1.str_eq; cases b with
    | none => cases h2.none_eq; simp [eqV, PyData.eqv]
    | bool _ => cases h2.bool_eq; simp [eqV, PyData.eqv]
    | int _ => cases h2.int_eq; simp [eqV, PyData.eqv]
    | str _ => cases h2.str_eq; simp [eqV, PyData.eqv]
    | _ => cases f2
  | _ => cases f1
/-- texts beside flat things: as values -/
theorem str_scal {K : PySem.W.Frag} {H : Hp} {x y : V} {a b : D} (h1 : Dn K H x a) (h2 : Dn K H y b) (f1 : flatP a = true) (f2 : flatP b = true) (hs : (∃ z, a = .str z) ∨ ∃ z, b = .str z) : scal x y = true ∧ decide (x = y) = PyData.eqv a b := by
  rcases hs with ⟨z, rfl⟩ | ⟨z, rfl⟩
  · cases h1.str_eq
    cases b with
    | none => cases h2.none_eq; exact ⟨rfl, by simp [PyData.eqv]⟩
    | bool _ => cases h2.bool_eq; exact ⟨rfl, by simp [PyData.eqv]⟩
    | int _ => cases h2.int_eq; exact ⟨rfl, by simp [PyData.eqv]⟩
    | str _ => cases h2.str_eq; exact ⟨rfl, by rw [dec_str]; simp [PyData.eqv]⟩
    | _ => cases f2
  · cases h2.str_eq
    cases a with
    | none => cases h1.none_eq; exact ⟨rfl, by simp [PyData.eqv]⟩
    | bool _ => cases h1.bool_eq; exact ⟨rfl, by simp [PyData.eqv]⟩
    | int _ => cases h1.int_eq; exact ⟨rfl, by simp [PyData.eqv]⟩
    | str _ => cases h1.str_eq; exact ⟨rfl, by rw [dec_str]; simp [PyData.eqv]⟩
    | _ => cases f1
theorem isStr (a : D) : (∃ z, a = .str z) ∨ ∀ z, a ≠ .str z := by
  cases a with
  | str z => exact .inl ⟨z, rfl⟩
  | _ => exact .inr fun z e => by cases e
theorem o_eq (hu : X.A.units + 128 < cLine) : OpR X (compareOp .Eq) (opRd X.K eqD) := by
  intro pins s σ H x y v u Q I rx ry h
  obtain ⟨a, b, z, h1, h2, e, q⟩ := h
  unfold eqD at e
  cases ek : eqB a b with
  | none => rw [ek] at e; cases e
  | some k =>
    rw [ek] at e; cases e
    have q' := q _ H (L2.Same.refl _) (.bl k)
    unfold eqB at ek
    split at ek
    · rename_i f
      rw [Bool.and_eq_true] at f
      cases ek
      by_cases hs : (∃ z, a = .str z) ∨ ∃ z, b = .str z
      · obtain ⟨sc, ee⟩ := str_scal h1 h2 f.1 f.2 hs
        exact op_eq pins s σ H x y v u Q I rx ry ⟨sc, by rw [ee]; exact q'⟩
      · exact op_eqD (by omega) pins s σ H x y v u Q I rx ry ⟨a, b, h1.dp, h2.dp, flat_shaped f.1 fun z e => hs (.inl ⟨z, e⟩), flat_shaped f.2 fun z e => hs (.inr ⟨z, e⟩), q'⟩
    · split at ek
      · rename_i f
        rw [Bool.and_eq_true] at f
        cases ek
        exact op_eqD (by omega) pins s σ H x y v u Q I rx ry ⟨a, b, h1.dp, h2.dp, f.1, f.2, q'⟩
      · cases ek
theorem o_ne (hu : X.A.units + 128 < cLine) : OpR X (compareOp .NotEq) (opRd X.K neD) := by
  intro pins s σ H x y v u Q I rx ry h
  obtain ⟨a, b, z, h1, h2, e, q⟩ := h
  unfold neD at e
  cases ek : eqB a b with
  | none => rw [ek] at e; cases e
  | some k =>
    rw [ek] at e; cases e
    have q' := q _ H (L2.Same.refl _) (.bl (!k))
    unfold eqB at ek
    split at ek
    · rename_i f
      rw [Bool.and_eq_true] at f
      cases ek
      by_cases hs : (∃ z, a = .str z) ∨ ∃ z, b = .str z
      · obtain ⟨sc, ee⟩ := str_scal h1 h2 f.1 f.2 hs
        exact op_ne pins s σ H x y v u Q I rx ry ⟨sc, by rw [ee]; exact q'⟩
      · exact op_neD (by omega) pins s σ H x y v u Q I rx ry ⟨a, b, h1.dp, h2.dp, flat_shaped f.1 fun z e => hs (.inl ⟨z, e⟩), flat_shaped f.2 fun z e => hs (.inr ⟨z, e⟩), q'⟩
    · split at ek
      · rename_i f
        rw [Bool.and_eq_true] at f
        cases ek
        exact op_neD (by omega) pins s σ H x y v u Q I rx ry ⟨a, b, h1.dp, h2.dp, f.1, f.2, q'⟩
      · cases ek
theorem o_lt (hu : X.A.units + 128 < cLine) : OpR X (compareOp .Lt) (opRd X.K ltD) := by
  intro pins s σ H x y v u Q I rx ry h
  obtain ⟨d1, d2, z, h1, h2, e, q⟩ := h
  unfold ltD at e
  split at e
  · cases e; cases h1.int_eq; cases h2.int_eq
    exact op_lt pins s σ H _ _ v u Q I rx ry ⟨_, _, rfl, rfl, q _ H (L2.Same.refl _) (.bl _)⟩
  · cases e; cases h1.str_eq; cases h2.str_eq
    exact op_lt_str pins s σ H _ _ v u Q I rx ry ⟨_, _, rfl, rfl, q _ H (L2.Same.refl _) (.bl _)⟩
  · split at e
    · rename_i xs ys hz
      rw [Bool.and_eq_true] at hz
      cases e
      obtain ⟨as, r1⟩ := h1.reads I rx
      obtain ⟨bs, r2⟩ := h2.reads I ry
      have hd := of_decide_eq_true hz.2
      have hm : min (PyData.tuple xs).depth (PyData.tuple ys).depth ≤ 64 := Nat.le_trans (Nat.min_le_left _ _) hd
      exact PySem.W.rcLt_alike _ _ X.A s v u as bs r1 r2 hz.1 (by intro z; cases z) (by omega) X.prog X.w X.xe _ ⟨.bl _, H, I, rfl, q _ H (L2.Same.refl _) (.bl _)⟩
    · cases e
  · cases e
theorem o_le : OpR X (compareOp .LtE) (opRd X.K leD) := by
  intro pins s σ H x y v u Q I rx ry h
  obtain ⟨d1, d2, z, h1, h2, e, q⟩ := h
  unfold leD at e
  split at e
  · cases e; cases h1.int_eq; cases h2.int_eq
    exact op_le pins s σ H _ _ v u Q I rx ry ⟨_, _, rfl, rfl, q _ H (L2.Same.refl _) (.bl _)⟩
  · cases e
theorem o_gt : OpR X (compareOp .Gt) (opRd X.K gtD) := by
  intro pins s σ H x y v u Q I rx ry h
  obtain ⟨d1, d2, z, h1, h2, e, q⟩ := h
  unfold gtD at e
  split at e
  · cases e; cases h1.int_eq; cases h2.int_eq
    exact op_gt pins s σ H _ _ v u Q I rx ry ⟨_, _, rfl, rfl, q _ H (L2.Same.refl _) (.bl _)⟩
  · cases e
theorem o_ge : OpR X (compareOp .GtE) (opRd X.K geD) := by
  intro pins s σ H x y v u Q I rx ry h
  obtain ⟨d1, d2, z, h1, h2, e, q⟩ := h
  unfold geD at e
  split at e
  · cases e; cases h1.int_eq; cases h2.int_eq
    exact op_ge pins s σ H _ _ v u Q I rx ry ⟨_, _, rfl, rfl, q _ H (L2.Same.refl _) (.bl _)⟩
  · cases e
theorem o_isB : OpR X (compareOp .Is) (opRd X.K isBD) := by
  intro pins s σ H x y v u Q I rx ry h
  obtain ⟨d1, d2, z, h1, h2, e, q⟩ := h
  unfold isBD at e
  split at e
  · cases e; cases h1.bool_eq; cases h2.bool_eq
    exact op_isBl pins s σ H _ _ v u Q I rx ry ⟨_, _, rfl, rfl, q _ H (L2.Same.refl _) (.bl _)⟩
  · cases e
theorem o_notB : OpR X (compareOp .IsNot) (opRd X.K notBD) := by
  intro pins s σ H x y v u Q I rx ry h
  obtain ⟨d1, d2, z, h1, h2, e, q⟩ := h
  unfold notBD at e
  split at e
  · cases e; cases h1.bool_eq; cases h2.bool_eq
    exact op_notBl pins s σ H _ _ v u Q I rx ry ⟨_, _, rfl, rfl, q _ H (L2.Same.refl _) (.bl _)⟩
  · cases e
/-- is None -/
def isND : D → D → Option D
  | a, .none => isNoneD a
  | _, _ => none
def notND : D → D → Option D
  | a, .none => notNoneD a
  | _, _ => none
theorem non_iff {K : PySem.W.Frag} {H : Hp} {x : V} {a : D} (h : Dn K H x a) : decide (x = .non) = isNon a := by
  cases h with
  | of h => cases h <;> simp [isNon]
  | lst h t => simp [isNon]
theorem o_isN : OpR X (compareOp .Is) (opRd X.K isND) := by
  intro pins s σ H x y v u Q I rx ry h
  obtain ⟨d1, d2, z, h1, h2, e, q⟩ := h
  unfold isND at e
  split at e
  · cases h2.none_eq
    unfold isNoneD at e
    cases e
    exact op_isN pins s σ H _ _ v u Q I rx ry ⟨rfl, by rw [non_iff h1]; exact q _ H (L2.Same.refl _) (.bl _)⟩
  · cases e
theorem o_notN : OpR X (compareOp .IsNot) (opRd X.K notND) := by
  intro pins s σ H x y v u Q I rx ry h
  obtain ⟨d1, d2, z, h1, h2, e, q⟩ := h
  unfold notND at e
  split at e
  · cases h2.none_eq
    unfold notNoneD at e
    cases e
    exact op_notN pins s σ H _ _ v u Q I rx ry ⟨rfl, by rw [non_iff h1]; exact q _ H (L2.Same.refl _) (.bl _)⟩
  · cases e
theorem in_flat {K : PySem.W.Frag} {H : Hp} {x : V} {a : D} (h1 : Dn K H x a) (f1 : flatP a = true) : ∀ {ys : List V} {ds : List D}, DfAll K H ys ds → ds.all flatP = true → ys.all flatV = true ∧ inV x ys = ds.any fun z => PyData.eqv z a
  | _, _, .nil, _ => ⟨rfl, rfl⟩
  | y :: ys, d :: ds, .cons h t, f => by
    rw [List.all_cons, Bool.and_eq_true] at f
    obtain ⟨i1, i2⟩ := in_flat h1 f1 t f.2
    refine ⟨by rw [List.all_cons, flat_v (.of h) f.1, i1]; rfl, ?_⟩
    unfold inV at i2 ⊢
    rw [List.any_cons, List.any_cons, flat_eqv (.of h) h1 f.1 f1, i2]
theorem o_in (hu : X.A.units + 128 < cLine) : OpR X (compareOp .In) (opRd X.K inD) := by
  intro pins s σ H x y v u Q I rx ry h
  obtain ⟨a, b, z, h1, h2, e, q⟩ := h
  unfold inD at e
  cases ek : inB a b with
  | none => rw [ek] at e; cases e
  | some k =>
    rw [ek] at e; cases e
    have q' := q _ H (L2.Same.refl _) (.bl k)
    unfold inB at ek
    split at ek
    · split at ek
      · rename_i f
        rw [Bool.and_eq_true] at f
        cases ek
        obtain ⟨p, ys, rfl, hs, t⟩ := h2.list_at
        obtain ⟨i1, i2⟩ := in_flat h1 f.1 t f.2
        exact op_in_seq pins s σ H x _ v u Q I rx ry ⟨p, ys, rfl, .inl hs, flat_v h1 f.1, i1, by rw [i2]; exact q'⟩
      · split at ek
        · rename_i f
          rw [Bool.and_eq_true] at f
          cases ek
          exact op_inD (by omega) pins s σ H x y v u Q I rx ry ⟨_, _, h1.dp, h2.dp, f.1, f.2, q'⟩
        · cases ek
    · split at ek
      · rename_i f
        rw [Bool.and_eq_true] at f
        cases ek
        obtain ⟨p, ys, rfl, hs, t⟩ := h2.tup_at
        obtain ⟨i1, i2⟩ := in_flat h1 f.1 t f.2
        exact op_in_seq pins s σ H x _ v u Q I rx ry ⟨p, ys, rfl, .inr hs.sq, flat_v h1 f.1, i1, by rw [i2]; exact q'⟩
      · cases ek
    · split at ek
      · cases ek
        cases h1.str_eq; cases h2.str_eq
        exact op_in_sign pins s σ H _ _ v u Q I rx ry ⟨_, _, rfl, rfl, q'⟩
      · cases ek
    · cases ek
theorem o_notIn (hu : X.A.units + 128 < cLine) : OpR X (compareOp .NotIn) (opRd X.K notInD) := by
  intro pins s σ H x y v u Q I rx ry h
  obtain ⟨a, b, z, h1, h2, e, q⟩ := h
  unfold notInD at e
  cases ek : inB a b with
  | none => rw [ek] at e; cases e
  | some k =>
    rw [ek] at e; cases e
    have q' := q _ H (L2.Same.refl _) (.bl (!k))
    unfold inB at ek
    split at ek
    · split at ek
      · rename_i f
        rw [Bool.and_eq_true] at f
        cases ek
        obtain ⟨p, ys, rfl, hs, t⟩ := h2.list_at
        obtain ⟨i1, i2⟩ := in_flat h1 f.1 t f.2
        exact op_notIn_seq pins s σ H x _ v u Q I rx ry ⟨p, ys, rfl, .inl hs, flat_v h1 f.1, i1, by rw [i2]; exact q'⟩
      · split at ek
        · rename_i f
          rw [Bool.and_eq_true] at f
          cases ek
          exact op_notInD (by omega) pins s σ H x y v u Q I rx ry ⟨_, _, h1.dp, h2.dp, f.1, f.2, q'⟩
        · cases ek
    · split at ek
      · rename_i f
        rw [Bool.and_eq_true] at f
        cases ek
        obtain ⟨p, ys, rfl, hs, t⟩ := h2.tup_at
        obtain ⟨i1, i2⟩ := in_flat h1 f.1 t f.2
        exact op_notIn_seq pins s σ H x _ v u Q I rx ry ⟨p, ys, rfl, .inr hs.sq, flat_v h1 f.1, i1, by rw [i2]; exact q'⟩
      · cases ek
    · split at ek
      · cases ek
        cases h1.str_eq; cases h2.str_eq
        exact op_notIn_sign pins s σ H _ _ v u Q I rx ry ⟨_, _, rfl, rfl, q'⟩
      · cases ek
    · cases ek
/-! ### subscripts -/
theorem at_df {K : PySem.W.Frag} {H : Hp} {xs : List V} {ds : List D} (t : DfAll K H xs ds) {i : Int} {z : D} (e : atD ds i = some z) : ∃ v, atI xs i = some v ∧ Df K H v z := by
  unfold atD at e
  unfold atI
  rw [t.length]
  split at e
  · rename_i j hj
    rw [hj]
    exact t.get e
  · cases e
theorem o_ix : IxR X (opRd X.K ixD) := by
  intro value slice pins s σ H x y v u Q I rx ry h hs
  obtain ⟨d1, d2, z, h1, h2, e, q⟩ := h
  unfold ixD at e
  split at e
  · cases h2.int_eq
    obtain ⟨a, xs, rfl, hl, t⟩ := h1.list_at
    obtain ⟨w, e1, dw⟩ := at_df t e
    exact ix_list value slice pins s σ H _ _ v u Q I rx ry ⟨a, xs, _, w, rfl, rfl, hl, e1, q w H (L2.Same.refl _) dw⟩ hs
  · cases h2.int_eq
    obtain ⟨a, xs, rfl, hl, t⟩ := h1.tup_at
    obtain ⟨w, e1, dw⟩ := at_df t e
    exact ix_tup value slice pins s σ H _ _ v u Q I rx ry ⟨a, xs, _, w, rfl, rfl, hl.sq, e1, q w H (L2.Same.refl _) dw⟩ hs
  · split at e
    · rename_i hz
      cases h2.int_eq; cases h1.str_eq
      split at e
      · rename_i j hj
        cases ec : (Str.cps _).toList[j]? with
        | none => rw [ec] at e; cases e
        | some c =>
          rw [ec] at e; cases e
          refine ix_str value slice pins s σ H _ _ v u Q I rx ry ⟨_, _, c, rfl, rfl, hz, ?_, q _ H (L2.Same.refl _) (.str _)⟩ hs
          unfold atI
          rw [hj]
          exact ec
      · cases e
    · cases e
  · cases e
end
end Pi

set_option Elab.async false
set_option linter.all false
set_option maxRecDepth 100000
/-! Pi8: isinstance, slices, builtins. -/
namespace Pi
open PySem PySem.Spec PyProof.Rows L2

/-! ### isinstance -/
def tyN : D → String
  | .none => "NoneType"
  | .bool _ => "bool"
  | .int _ => "int"
  | .str _ => "str"
  | .list _ => "list"
  | .tuple _ => "tuple"
  | .dict _ => "dict"
inductive Ty where | int | bool | str | tup | lst
def Ty.nm : Ty → String
  | .int => "int" | .bool => "bool" | .str => "str" | .tup => "tuple" | .lst => "list"
def Ty.has : Ty → D → Bool
  | .int, .int _ => true
  | .int, .bool _ => true
  | .bool, .bool _ => true
  | .str, .str _ => true
  | .tup, .tuple _ => true
  | .lst, .list _ => true
  | _, _ => false
def isT (T : Ty) (d : D) : Option D := some (.bool (T.has d))
theorem kit_has (T : Ty) (d : D) : kitB (tyN d) T.nm = some (T.has d) := by
  cases T <;> cases d <;> (first | rfl | decide +kernel)
section
variable {X : Cx} {W : WX}
theorem Dn.tyX {K : PySem.W.Frag} {H : Hp} {x : V} {d : D} (h : Dn K H x d) (hd : ∀ kvs, d ≠ .dict kvs) : TyX K H x (.type (tyN d)) := by
  cases d with
  | none => cases h.none_eq; exact .base .non
  | bool b => cases h.bool_eq; exact .base (.bl b)
  | int i => cases h.int_eq; exact .base (.int i)
  | str z => cases h.str_eq; exact .base (.str z)
  | list xs =>
    obtain ⟨a, vs, rfl, hs, t⟩ := h.list_at
    rcases hs with (hs | ⟨o, hs⟩) | ⟨o, its, n, hk, hc, _⟩
    · exact .base (.lst hs)
    · exact .base (.frz hs)
    · exact .kList hk hc
  | tuple xs =>
    obtain ⟨a, vs, rfl, hs, t⟩ := h.tup_at
    obtain ⟨o, hs, _⟩ := hs
    exact .fTuple hs
  | dict kvs => exact absurd rfl (hd kvs)
theorem not_dict {K : PySem.W.Frag} {H : Hp} {x : V} {d : D} (h : Dn K H x d) : ∀ kvs, d ≠ .dict kvs := fun kvs e => by
  subst e
  cases h with
  | of h => cases h
/-- isinstance(e, T) -/
theorem i_isi (T : Ty) {e : Expr} {m : EM} {p p2 pos : Pos} (h : IE X W e m) (hm : X.mg "isinstance" = none) (hm2 : X.mg (Str.ofString T.nm) = none) (hg : Gl X "isinstance" := by rfl) (hg2 : Gl X (Str.ofString T.nm) := by rfl)
    (hv : bootBuiltins (Str.ofString T.nm) = some (.type T.nm) := by decide +kernel)
    (he : starEach [e, .Name (Str.ofString T.nm) p2] X.env = (false, eval e X.env) :: starEach [.Name (Str.ofString T.nm) p2] X.env := by rfl) (hpl : (backTo pos (starEach [.Name (Str.ofString T.nm) p2] X.env)).any (·.1) = false := by rfl)
    (hn : Str.ofString T.nm ≠ "__name__" := by decide) (hdb : (Str.ofString T.nm == ("__debug__" : Str)) = false := by decide) :
    IE X W (.Call (.Name "isinstance" p) [e, .Name (Str.ofString T.nm) p2] [] pos) (mOp1 (isT T) m) :=
  PE.imp (pe_callB call_isi hg hm (by decide +kernel) (pa_cons h (pa_cons (pe_bltn (v := .ty T.nm) (u := .type T.nm) hg2 hm2 hv rfl hn hdb) pa_nil) he) (by decide) (by decide) he hpl) fun σ H Q h => by
    obtain ⟨φ, ρ, S, eo, so, h⟩ := rd_op1 h
    refine ⟨φ, ρ, S, eo, so, h.imp fun x φ1 S1 H1 _ g1 so1 h1 v r => ?_⟩
    obtain ⟨d, z, dn, e, q⟩ := h1 v r
    cases e
    exact ⟨v, .ty T.nm, .type (tyN d), .type T.nm, T.has d, rfl, .ty _, dn.tyX (not_dict dn), kit_ty (kit_has T d), q _ H1 (L2.Same.refl _) (.bl _)⟩

/-! ### slices -/
def cutD (xs : List D) (lo hi : Option Int) : List D := (xs.drop (HT.sIx xs.length 0 lo)).take (HT.sIx xs.length xs.length hi - HT.sIx xs.length 0 lo)
def sliceD : D → Option Int → Option Int → Option D
  | .list xs, lo, hi => some (.list (cutD xs lo hi))
  | .tuple xs, lo, hi => some (.tuple (cutD xs lo hi))
  | .str z, lo, hi => if z.length ≤ sizeLine then some (.str (cutS z lo hi)) else none
  | _, _, _ => none
theorem cut_df {K : PySem.W.Frag} {H : Hp} {xs : List V} {ds : List D} (t : DfAll K H xs ds) (lo hi : Option Int) : DfAll K H (cutV xs lo hi) (cutD ds lo hi) := by
  unfold cutV cutD
  rw [t.length]
  exact (t.drop _).take _
def slRd (K : PySem.W.Frag) : V → Option Int → Option Int → Hp → VK → Prop := fun x lo hi H Q => ∃ d z, Dn K H x d ∧ sliceD d lo hi = some z ∧ (∀ v H', L2.Same H H' → Df K H' v z → Q v H') ∧
  ∀ p vs zs H', z = .list zs → L2.Same H H' → H p = none → H' p = some (.lst vs) → DfAll K H' vs zs → Q (.ref p) H'
theorem o_slice : SlR X (slRd X.K) := by
  intro pins s σ H x v vl vu lo hi sl Q I rx hs pl pu h
  obtain ⟨d, z, h1, e, q, qL⟩ := h
  unfold sliceD at e
  split at e
  · cases e
    obtain ⟨a, xs, rfl, hl, t⟩ := h1.list_at
    refine sl_list pins s σ H _ v vl vu lo hi sl Q I rx hs pl pu ⟨a, xs, rfl, hl, fun p hp => ?_⟩
    obtain ⟨sm, d⟩ := new_lst hp (cut_df t lo hi)
    exact qL p _ _ _ rfl sm hp upd_same d
  · cases e
    obtain ⟨a, xs, rfl, hl, t⟩ := h1.tup_at
    by_cases hw : HT.sIx xs.length 0 lo = 0 ∧ HT.sIx xs.length xs.length hi = xs.length
    · refine sl_tupA pins s σ H _ v vl vu lo hi sl Q I rx hs pl pu ⟨a, xs, rfl, hl.sq, fun _ => q _ H (L2.Same.refl _) ?_, fun hn => absurd hw hn⟩
      have : cutV xs lo hi = xs := by unfold cutV; rw [hw.1, hw.2]; simp
      have t' := cut_df t lo hi
      rw [this] at t'
      exact .tup hl t'
    · cases rx
      obtain ⟨its, r, ht, hz⟩ := I.tuple hl.sq
      have hlen : its.toArray.size = xs.length := by rw [List.size_toArray]; exact r.length.symm
      refine ⟨"tuple", _, PyProof.Rows.slot_tuple_getitem.lookup, ht.typeIs, ?_⟩
      refine HT.getItem_tuple_cut ht hs pl pu (by rw [hlen]; exact hw) ?_ (by rw [hlen]; exact hz)
      rw [hlen]
      exact got_tup I (Nat.le_trans (cutV_length xs lo hi) hz) ((r.drop (HT.sIx xs.length 0 lo)).take (HT.sIx xs.length xs.length hi - HT.sIx xs.length 0 lo)) (cut_df t lo hi) q
  · split at e
    · rename_i hz
      cases e
      cases h1.str_eq
      exact sl_str pins s σ H _ v vl vu lo hi sl Q I rx hs pl pu ⟨_, rfl, hz, q _ H (L2.Same.refl _) (.str _)⟩
    · cases e
  · cases e
abbrev OM := M (Option Int)
def rdO (w : World) (K : PySem.W.Frag) (mg : Str → Option Value) (W : WX) (m : OM) : TO := fun σ H Q => ∃ φ ρ S, EnvOk K φ H σ ρ ∧ StOk w K φ H S ∧ EndR w K mg W φ H σ (fun o _ _ H' => Q o H') (m ρ S)
abbrev IO (X : Cx) (W : WX) (e : Option Expr) (m : OM) : Prop := PO X e (rdO X.w X.K X.mg W m)
def mNoP : OM := fun _ S => .ok none S
def mPart (a : EM) : OM := fun ρ S => (a ρ S).bind fun x S1 => match x with
  | .d (.int i) => .ok (some i) S1
  | _ => .no
theorem PO.imp {e : Option Expr} {t t' : TO} (h : PO X e t) (f : ∀ σ H Q, t' σ H Q → t σ H Q) : PO X e t' := ⟨fun pins s σ H Q I q => h.run pins s σ H Q I (f σ H Q q)⟩
theorem i_noP : IO X W none mNoP := PO.imp po_none fun σ H Q h => by
  obtain ⟨φ, ρ, S, eo, so, h⟩ := h
  exact h.now so
theorem i_part {e : Expr} {m : EM} (h : IE X W e m) : IO X W (some e) (mPart m) := PO.imp (po_some h) fun σ H Q h => by
  obtain ⟨φ, ρ, S, eo, so, h⟩ := h
  refine ⟨φ, ρ, S, eo, so, (EndR.bind h).imp fun x φ1 S1 H1 ex g1 so1 h1 v r => ?_⟩
  split at h1
  · cases r
    exact ⟨_, rfl, h1.now so1⟩
  · exact h1.elim
def mSlice (a : EM) (lo hi : OM) : EM := fun ρ S => (a ρ S).bind fun x S1 => (lo ρ S1).bind fun l S2 => (hi ρ S2).bind fun h S3 => match rd S3 x with
  | some x' => match sliceD x' l h with
    | some z => .ok (.d z) S3
    | none => .no
  | none => .no
theorem i_slice {e : Expr} {lo hi : Option Expr} {m : EM} {ml mh : OM} {p2 pos : Pos} (he : IE X W e m) (hl : IO X W lo ml) (hh : IO X W hi mh) : IE X W (.Subscript e (.Slice lo hi none p2) pos) (mSlice m ml mh) :=
  PE.imp (pe_frzF (pe_slice o_slice he hl hh)) fun σ H Q h => by
    obtain ⟨φ, ρ, S, eo, so, h⟩ := h
    refine ⟨φ, ρ, S, eo, so, (EndR.bind h).imp fun x φ1 S1 H1 _ g1 so1 h1 v1 r1 => ?_⟩
    refine ⟨φ1, ρ, S1, eo.grow g1, so1, (EndR.bind h1).imp fun l φ2 S2 H2 _ g2 so2 h2 => ?_⟩
    refine ⟨φ2, ρ, S2, (eo.grow g1).grow g2, so2, (EndR.bind h2).imp fun u φ3 S3 H3 _ g3 so3 h3 => ?_⟩
    split at h3
    · rename_i x' q1
      split at h3
      · rename_i z q3
        refine ⟨x', z, ((r1.grow g2).grow g3).rd so3 q1, q3, fun v H' s d => .inl (h3 φ3 H' (Grow.same s) (so3.same s) v d), fun p vs zs H' ez s n ep df => .inr ⟨p, vs, rfl, ep, fun o => ?_⟩⟩
        subst ez
        have s' : L2.Same H3 (upd H' p (.frz o (.lst vs))) := same_frz s n
        exact h3 φ3 _ (Grow.same s') (so3.same s') _ (.lst (.inl ⟨o, upd_same⟩) (DfAll.mono (upd_stab ep rfl) df))
      · exact h3.elim
    · exact h3.elim

/-! ### builtins -/
theorem dn1 {K : PySem.W.Frag} {H : Hp} {vs : List V} {d : D} (h : DnAll K H vs [d]) : ∃ v, vs = [v] ∧ Dn K H v d := by
  cases h with
  | cons h t => cases t; exact ⟨_, rfl, h⟩
theorem dn2 {K : PySem.W.Frag} {H : Hp} {vs : List V} {d e : D} (h : DnAll K H vs [d, e]) : ∃ v w, vs = [v, w] ∧ Dn K H v d ∧ Dn K H w e := by
  cases h with
  | cons h t =>
    cases t with
    | cons h' t => cases t; exact ⟨_, _, rfl, h, h'⟩
theorem c_len : CallR X (.builtin "len") (cbRd X.K lenD) := by
  intro pins s σ H xs us Q I r h
  obtain ⟨ds, z, h1, e, q⟩ := h
  unfold lenD at e
  split at e
  · cases e
    obtain ⟨v, rfl, dn⟩ := dn1 h1
    obtain ⟨a, vs, rfl, hs, t⟩ := dn.list_at
    exact call_len pins s σ H _ us Q I r ⟨_, vs.length, rfl, .inl ⟨vs, hs, rfl⟩, by rw [t.length]; exact q _ H (L2.Same.refl _) (.int _)⟩
  · cases e
    obtain ⟨v, rfl, dn⟩ := dn1 h1
    obtain ⟨a, vs, rfl, hs, t⟩ := dn.tup_at
    exact call_len pins s σ H _ us Q I r ⟨_, vs.length, rfl, .inr ⟨vs, hs.sq, rfl⟩, by rw [t.length]; exact q _ H (L2.Same.refl _) (.int _)⟩
  · split at e
    · rename_i hz
      cases e
      obtain ⟨v, rfl, dn⟩ := dn1 h1
      cases dn.str_eq
      exact call_len pins s σ H _ us Q I r ⟨_, _, rfl, ⟨hz, rfl⟩, q _ H (L2.Same.refl _) (.int _)⟩
    · cases e
  · cases e
theorem c_abs : CallR X (.builtin "abs") (cbRd X.K absD) := by
  intro pins s σ H xs us Q I r h
  obtain ⟨ds, z, h1, e, q⟩ := h
  unfold absD at e
  split at e
  · cases e
    obtain ⟨v, rfl, dn⟩ := dn1 h1
    cases dn.int_eq
    exact call_abs pins s σ H _ us Q I r ⟨_, rfl, q _ H (L2.Same.refl _) (.int _)⟩
  · cases e
theorem bools_df {K : PySem.W.Frag} {H : Hp} : ∀ {vs : List V} {ds : List D} {bs : List Bool}, DfAll K H vs ds → boolsD ds = some bs → vs = bs.map V.bl
  | _, _, _, .nil, e => by cases e; rfl
  | _, d :: ds, bs, .cons h t, e => by
    cases d with
    | bool b =>
      cases h
      unfold boolsD at e
      cases q : boolsD ds with
      | none => rw [q] at e; cases e
      | some cs => rw [q] at e; cases e; rw [bools_df t q]; rfl
    | _ => cases e
theorem ints_df {K : PySem.W.Frag} {H : Hp} : ∀ {vs : List V} {ds : List D} {bs : List Int}, DfAll K H vs ds → intsD ds = some bs → vs = bs.map V.int
  | _, _, _, .nil, e => by cases e; rfl
  | _, d :: ds, bs, .cons h t, e => by
    cases d with
    | int b =>
      cases h
      unfold intsD at e
      cases q : intsD ds with
      | none => rw [q] at e; cases e
      | some cs => rw [q] at e; cases e; rw [ints_df t q]; rfl
    | _ => cases e
theorem c_all (hc : X.calm = true) : CallR X (.builtin "all") (cbRd X.K allD1) := by
  intro pins s σ H xs us Q I r h
  obtain ⟨ds, z, h1, e, q⟩ := h
  unfold allD1 at e
  split at e
  · rename_i ys
    cases eb : boolsD ys with
    | none => rw [eb] at e; cases e
    | some bs =>
      rw [eb] at e; cases e
      obtain ⟨v, rfl, dn⟩ := dn1 h1
      obtain ⟨a, vs, rfl, hs, t⟩ := dn.list_at
      have ev := bools_df t eb
      subst ev
      exact cr_all hc pins s σ H _ us Q I r ⟨a, bs, rfl, hs, q _ H (L2.Same.refl _) (.bl _)⟩
  · cases e
theorem c_any (hc : X.calm = true) : CallR X (.builtin "any") (cbRd X.K anyD1) := by
  intro pins s σ H xs us Q I r h
  obtain ⟨ds, z, h1, e, q⟩ := h
  unfold anyD1 at e
  split at e
  · rename_i ys
    cases eb : boolsD ys with
    | none => rw [eb] at e; cases e
    | some bs =>
      rw [eb] at e; cases e
      obtain ⟨v, rfl, dn⟩ := dn1 h1
      obtain ⟨a, vs, rfl, hs, t⟩ := dn.list_at
      have ev := bools_df t eb
      subst ev
      exact cr_any hc pins s σ H _ us Q I r ⟨a, bs, rfl, hs, q _ H (L2.Same.refl _) (.bl _)⟩
  · cases e
theorem c_int : CallR X (.type "int") (cbRd X.K intD) := by
  intro pins s σ H xs us Q I r h
  obtain ⟨ds, z, h1, e, q⟩ := h
  unfold intD at e
  split at e
  · cases e
    obtain ⟨v, rfl, dn⟩ := dn1 h1
    cases dn.int_eq
    exact call_int1 pins s σ H _ us Q I r (.inl ⟨_, rfl, q _ H (L2.Same.refl _) (.int _)⟩)
  · cases e
    obtain ⟨v, rfl, dn⟩ := dn1 h1
    cases dn.bool_eq
    exact call_int1 pins s σ H _ us Q I r (.inr ⟨_, rfl, q _ H (L2.Same.refl _) (.int _)⟩)
  · cases e
theorem c_tuple : CallR X (.type "tuple") (cbRd X.K tupleD) := by
  intro pins s σ H xs us Q I r h
  obtain ⟨ds, z, h1, e, q⟩ := h
  unfold tupleD at e
  split at e
  · cases e
    obtain ⟨v, rfl, dn⟩ := dn1 h1
    obtain ⟨a, vs, rfl, hs, t⟩ := dn.list_at
    cases r with
    | cons r1 r2 =>
      cases r2
      cases r1
      obtain ⟨its, rv, pl, hz⟩ := I.list hs
      refine call_tuple_list pl.isList (fun h' hk => ?_) (by rw [List.size_toArray, ← rv.length]; exact hz)
      exact got_tup (s := { s with heap := h' }) (I.kept (t' := s.toks) hk) hz rv t q
  · cases e
    obtain ⟨v, rfl, dn⟩ := dn1 h1
    obtain ⟨a, vs, rfl, hs, t⟩ := dn.tup_at
    exact call_tuple_of pins s σ H _ us Q I r ⟨a, vs, rfl, .inr ⟨hs.sq, q _ H (L2.Same.refl _) (.tup hs t)⟩⟩
  · cases e
theorem c_list : CallR X (.type "list") (cbRdL X.K listD) := by
  intro pins s σ H xs us Q I r h
  obtain ⟨ds, z, h1, e, q⟩ := h
  unfold listD at e
  split at e
  · cases e
    obtain ⟨v, rfl, dn⟩ := dn1 h1
    obtain ⟨a, vs, rfl, hs, t⟩ := dn.list_at
    refine call_list_of pins s σ H _ us Q I r ⟨a, vs, rfl, .inl hs, fun p hp => ?_⟩
    obtain ⟨sm, d⟩ := new_lst hp t
    exact q p _ _ sm hp upd_same d
  · cases e
    obtain ⟨v, rfl, dn⟩ := dn1 h1
    obtain ⟨a, vs, rfl, hs, t⟩ := dn.tup_at
    refine call_list_of pins s σ H _ us Q I r ⟨a, vs, rfl, .inr hs.sq, fun p hp => ?_⟩
    obtain ⟨sm, d⟩ := new_lst hp t
    exact q p _ _ sm hp upd_same d
  · cases e
end
end Pi

set_option Elab.async false
set_option linter.all false
set_option maxRecDepth 100000
/-! Pi9: min, max, sum; sorted; lists changed; calls with a cell. -/
namespace Pi
open PySem PySem.Spec PyProof.Rows L2

theorem maxI_spec : ∀ (x : Int) (r : List Int), maxI (x :: r) ∈ x :: r ∧ ∀ a ∈ x :: r, a ≤ maxI (x :: r)
  | x, [] => by simp [maxI]
  | x, y :: r => by
    obtain ⟨h1, h2⟩ := maxI_spec y r
    have e : maxI (x :: y :: r) = max x (maxI (y :: r)) := rfl
    rw [e]
    refine ⟨?_, fun a ha => ?_⟩
    · rcases Int.le_total x (maxI (y :: r)) with h | h
      · rw [Int.max_eq_right h]; exact List.mem_cons_of_mem _ h1
      · rw [Int.max_eq_left h]; exact List.mem_cons_self
    · rcases List.mem_cons.mp ha with rfl | ha
      · exact Int.le_max_left _ _
      · exact Int.le_trans (h2 a ha) (Int.le_max_right _ _)
theorem minI_spec : ∀ (x : Int) (r : List Int), minI (x :: r) ∈ x :: r ∧ ∀ a ∈ x :: r, minI (x :: r) ≤ a
  | x, [] => by simp [minI]
  | x, y :: r => by
    obtain ⟨h1, h2⟩ := minI_spec y r
    have e : minI (x :: y :: r) = min x (minI (y :: r)) := rfl
    rw [e]
    refine ⟨?_, fun a ha => ?_⟩
    · rcases Int.le_total x (minI (y :: r)) with h | h
      · rw [Int.min_eq_left h]; exact List.mem_cons_self
      · rw [Int.min_eq_right h]; exact List.mem_cons_of_mem _ h1
    · rcases List.mem_cons.mp ha with rfl | ha
      · exact Int.min_le_left _ _
      · exact Int.le_trans (Int.min_le_right _ _) (h2 a ha)
section
variable {prog : Program} {w : World} {A : Around} {E : Value → Shared → Prop} {s : Shared} {t : Addr}
theorem tup_st {its : Array Value} (ht : s.heap.IsTuple t its) : (s.heap.push { cls := .type "tuple_iterator", data := .fields #[.ref t, .int 0 0] }).IsTupleIter s.heap.objs.size t 0 ∧
    (s.heap.push { cls := .type "tuple_iterator", data := .fields #[.ref t, .int 0 0] }).IsTuple t its := ⟨⟨_, Heap.get?_push_size _ rfl, rfl, rfl⟩, ht.at fun o e => Heap.get?_push_of_some _ e⟩
theorem tup_raw {bt : Nat → Nat → Bool} {xs : Array (Int × Tok)} {Q : Value → Shared → Prop} (hh : A.handled = none) (ht : s.heap.IsTuple t (intItems xs)) (hne : 0 < xs.size) {op : CmpOp} (hc : CmpOf prog w A.in1 op (fun i v => (intItems xs)[i]? = some v) bt)
    (h : ∀ v h' tk, (intItems xs)[argBest bt (xs.size - 1)]? = some v → (∀ b o, s.heap.get? b = some o → h'.get? b = some o) → Q v { s with heap := h', toks := tk }) :
    wpAny (model prog w) A.in1 (pyIter (.ref t)) (fun it s₂ => ∃ I fp wr n P St bt, it = .ref I ∧ Walks prog w A.in1 I fp wr n P St ∧ St 0 s₂.heap ∧ (∀ b ∈ fp, b < s₂.heap.objs.size) ∧ 0 < n ∧ CmpOf prog w A.in1 op P bt ∧
      ∀ v h' tk, P (argBest bt (n - 1)) v → (∀ b o, b ∉ wr → s₂.heap.get? b = some o → h'.get? b = some o) → Q v { s₂ with heap := h', toks := tk }) E s := by
  obtain ⟨o, ho, hc', n, hd⟩ := id ht
  have hlt : t < s.heap.objs.size := Heap.lt_size ho
  have hsz : (intItems xs).size = xs.size := by simp [intItems]
  refine wpAny_pyIter_tuple ht ?_
  refine ⟨s.heap.objs.size, _, _, _, _, _, bt, rfl, Walks.tuple (A := A.in1) hh s.heap.objs.size t (Nat.ne_of_lt hlt) (intItems xs), tup_st ht, fun b hb => ?_, by rw [hsz]; exact hne, hc, fun v h' tk hP hk => ?_⟩
  · rcases List.mem_cons.mp hb with rfl | hb
    · exact Heap.lt_size (Heap.get?_push_size _ rfl)
    · obtain rfl := List.mem_singleton.mp hb
      exact Heap.lt_size (Heap.get?_push_of_some _ ho)
  · refine h v h' tk (by rw [hsz] at hP; exact hP) fun b o e => hk b o (fun hb => ?_) (Heap.get?_push_of_some _ e)
    rw [List.mem_singleton.mp hb] at e
    exact absurd (Heap.lt_size e) (Nat.lt_irrefl _)
theorem max_tup {its : List Value} {ns : List Int} {Q : Value → Shared → Prop} (hh : A.handled = none) (ht : s.heap.IsTuple t its.toArray) (hi : IntsAre its ns) (hne : 0 < ns.length)
    (h : ∀ h' tk M t', (∀ b o, s.heap.get? b = some o → h'.get? b = some o) → M ∈ ns → (∀ a, a ∈ ns → a ≤ M) → Q (.int M t') { s with heap := h', toks := tk }) : wpAny (model prog w) A (call (.builtin "max") [.ref t]) Q E s := by
  obtain ⟨xs, e⟩ := hi.allInts.items
  have hn : numsOf (intItems xs).toList = ns := by rw [← e]; exact hi.numsOf
  rw [nums_intItems] at hn
  subst hn
  rw [e] at ht
  have hsz : 0 < xs.size := by simpa using hne
  refine call_max_walk (tup_raw hh ht hsz (CmpOf.ints_gt (numAt xs) (fun _ _ => intItems_at)) fun v h' tk hv hk => ?_)
  obtain ⟨t, rfl⟩ := intItems_at hv
  obtain ⟨h1, h2⟩ := argBest_gt (numAt xs) (xs.size - 1)
  refine h h' tk _ t hk ?_ fun a ha => ?_
  · rw [numAt_eq]; exact PySem.getD_mem (by rw [List.length_map, Array.length_toList]; omega)
  · obtain ⟨j, hj, rfl⟩ := mem_getD ha
    rw [List.length_map, Array.length_toList] at hj
    rw [← numAt_eq]; exact h2 j (by omega)
theorem min_tup {its : List Value} {ns : List Int} {Q : Value → Shared → Prop} (hh : A.handled = none) (ht : s.heap.IsTuple t its.toArray) (hi : IntsAre its ns) (hne : 0 < ns.length)
    (h : ∀ h' tk M t', (∀ b o, s.heap.get? b = some o → h'.get? b = some o) → M ∈ ns → (∀ a, a ∈ ns → M ≤ a) → Q (.int M t') { s with heap := h', toks := tk }) : wpAny (model prog w) A (call (.builtin "min") [.ref t]) Q E s := by
  obtain ⟨xs, e⟩ := hi.allInts.items
  have hn : numsOf (intItems xs).toList = ns := by rw [← e]; exact hi.numsOf
  rw [nums_intItems] at hn
  subst hn
  rw [e] at ht
  have hsz : 0 < xs.size := by simpa using hne
  refine call_min_walk (tup_raw hh ht hsz (CmpOf.ints_lt (numAt xs) (fun _ _ => intItems_at)) fun v h' tk hv hk => ?_)
  obtain ⟨t, rfl⟩ := intItems_at hv
  obtain ⟨h1, h2⟩ := argBest_lt (numAt xs) (xs.size - 1)
  refine h h' tk _ t hk ?_ fun a ha => ?_
  · rw [numAt_eq]; exact PySem.getD_mem (by rw [List.length_map, Array.length_toList]; omega)
  · obtain ⟨j, hj, rfl⟩ := mem_getD ha
    rw [List.length_map, Array.length_toList] at hj
    rw [← numAt_eq]; exact h2 j (by omega)
end
section
variable {X : Cx}
theorem maxOf_ok {xs : List D} {z : D} (e : maxOf xs = some z) : ∃ x r, intsD xs = some (x :: r) ∧ z = .int (maxI (x :: r)) := by
  unfold maxOf at e
  split at e
  · rename_i x r q
    cases e
    exact ⟨x, r, q, rfl⟩
  · cases e
theorem minOf_ok {xs : List D} {z : D} (e : minOf xs = some z) : ∃ x r, intsD xs = some (x :: r) ∧ z = .int (minI (x :: r)) := by
  unfold minOf at e
  split at e
  · rename_i x r q
    cases e
    exact ⟨x, r, q, rfl⟩
  · cases e
theorem c_max (hc : X.calm = true) : CallR X (.builtin "max") (cbRd X.K maxD) := by
  intro pins s σ H xs us Q I r h
  obtain ⟨ds, z, h1, e, q⟩ := h
  unfold maxD at e
  split at e
  · rename_i a b
    cases e
    obtain ⟨v, w, rfl, d1, d2⟩ := dn2 h1
    cases d1.int_eq; cases d2.int_eq
    refine call_max2 hc pins s σ H _ us Q I r ⟨a, b, rfl, ?_⟩
    have : (if b > a then b else a) = max a b := by split <;> omega
    rw [this]
    exact q _ H (L2.Same.refl _) (.int _)
  · obtain ⟨x, rr, ei, rfl⟩ := maxOf_ok e
    obtain ⟨v, rfl, dn⟩ := dn1 h1
    obtain ⟨a, vs, rfl, hs, t⟩ := dn.list_at
    have ev := ints_df t ei
    subst ev
    obtain ⟨m1, m2⟩ := maxI_spec x rr
    refine cr_max hc pins s σ H _ us Q I r ⟨a, _, rfl, hs, by simp, fun m hm hle => ?_⟩
    have : m = maxI (x :: rr) := Int.le_antisymm (m2 m hm) (hle _ m1)
    rw [this]
    exact q _ H (L2.Same.refl _) (.int _)
  · obtain ⟨x, rr, ei, rfl⟩ := maxOf_ok e
    obtain ⟨v, rfl, dn⟩ := dn1 h1
    obtain ⟨a, vs, rfl, hs, t⟩ := dn.tup_at
    have ev := ints_df t ei
    subst ev
    obtain ⟨m1, m2⟩ := maxI_spec x rr
    obtain ⟨its, rv, ht, _⟩ := I.tuple hs.sq
    rw [Vals.ref1 r]
    refine max_tup (I.ok.hd hc) (show s.heap.IsTuple a its.toArray from ht) rv.ints (by simp) fun h' tk m t' hk hm hle => ?_
    have : m = maxI (x :: rr) := Int.le_antisymm (m2 m hm) (hle _ m1)
    subst this
    exact ⟨.int _, H, I.kept hk, ⟨_, rfl⟩, q _ H (L2.Same.refl _) (.int _)⟩
  · cases e
theorem c_min (hc : X.calm = true) : CallR X (.builtin "min") (cbRd X.K minD) := by
  intro pins s σ H xs us Q I r h
  obtain ⟨ds, z, h1, e, q⟩ := h
  unfold minD at e
  split at e
  · rename_i a b
    cases e
    obtain ⟨v, w, rfl, d1, d2⟩ := dn2 h1
    cases d1.int_eq; cases d2.int_eq
    refine call_min2 hc pins s σ H _ us Q I r ⟨a, b, rfl, ?_⟩
    have : (if b < a then b else a) = min a b := by split <;> omega
    rw [this]
    exact q _ H (L2.Same.refl _) (.int _)
  · obtain ⟨x, rr, ei, rfl⟩ := minOf_ok e
    obtain ⟨v, rfl, dn⟩ := dn1 h1
    obtain ⟨a, vs, rfl, hs, t⟩ := dn.list_at
    have ev := ints_df t ei
    subst ev
    obtain ⟨m1, m2⟩ := minI_spec x rr
    refine cr_min hc pins s σ H _ us Q I r ⟨a, _, rfl, hs, by simp, fun m hm hle => ?_⟩
    have : m = minI (x :: rr) := Int.le_antisymm (hle _ m1) (m2 m hm)
    rw [this]
    exact q _ H (L2.Same.refl _) (.int _)
  · obtain ⟨x, rr, ei, rfl⟩ := minOf_ok e
    obtain ⟨v, rfl, dn⟩ := dn1 h1
    obtain ⟨a, vs, rfl, hs, t⟩ := dn.tup_at
    have ev := ints_df t ei
    subst ev
    obtain ⟨m1, m2⟩ := minI_spec x rr
    obtain ⟨its, rv, ht, _⟩ := I.tuple hs.sq
    rw [Vals.ref1 r]
    refine min_tup (I.ok.hd hc) (show s.heap.IsTuple a its.toArray from ht) rv.ints (by simp) fun h' tk m t' hk hm hle => ?_
    have : m = minI (x :: rr) := Int.le_antisymm (hle _ m1) (m2 m hm)
    subst this
    exact ⟨.int _, H, I.kept hk, ⟨_, rfl⟩, q _ H (L2.Same.refl _) (.int _)⟩
  · cases e
theorem c_sum (hc : X.calm = true) : CallR X (.builtin "sum") (cbRd X.K sumD) := by
  intro pins s σ H xs us Q I r h
  obtain ⟨ds, z, h1, e, q⟩ := h
  unfold sumD at e
  split at e
  · rename_i ys
    cases eb : intsD ys with
    | none => rw [eb] at e; cases e
    | some bs =>
      rw [eb] at e; cases e
      obtain ⟨v, rfl, dn⟩ := dn1 h1
      obtain ⟨a, vs, rfl, hs, t⟩ := dn.list_at
      have ev := ints_df t eb
      subst ev
      exact cr_sum hc pins s σ H _ us Q I r ⟨a, bs, rfl, hs, q _ H (L2.Same.refl _) (.int _)⟩
  · rename_i ys
    cases eb : intsD ys with
    | none => rw [eb] at e; cases e
    | some bs =>
      rw [eb] at e; cases e
      obtain ⟨v, rfl, dn⟩ := dn1 h1
      obtain ⟨a, vs, rfl, hs, t⟩ := dn.tup_at
      have ev := ints_df t eb
      subst ev
      obtain ⟨its, rv, ht, _⟩ := I.tuple hs.sq
      rw [Vals.ref1 r]
      have hi := rv.ints
      obtain ⟨xs, hx⟩ := hi.allInts.items
      have hn : numsOf its.toArray.toList = bs := by rw [show its.toArray.toList = its from rfl, hi.numsOf]
      have ht' : s.heap.IsTuple a its.toArray := ht
      rw [hx] at ht' hn
      rw [nums_intItems] at hn
      refine PySem.W.ktm_sumG (I.ok.hd hc) ht' fun h' tk t' hk => ?_
      rw [preSum_eq, List.take_of_length_le (by simp), hn]
      exact ⟨.int _, H, I.kept hk, ⟨_, rfl⟩, q _ H (L2.Same.refl _) (.int _)⟩
  · cases e
end
end Pi

set_option Elab.async false
set_option linter.all false
set_option maxRecDepth 100000
/-! Pi10: enumerate of a tuple or a list. -/
namespace Pi
open PySem PySem.Spec PyProof.Rows L2

set_option maxHeartbeats 1000000 in
theorem meets_enumB {v : Value} {o : Obj} {G : Heap → Prop} (B : Begins v o G) :
    Meets (Builtin.«enumerate.__new__» ⟨[.type "enumerate", v], []⟩) (fun _ R s => G s.heap ∧
      R (.ok (.ret (.ref (s.heap.push o).objs.size))) { s with heap := (s.heap.push o).push { cls := .type "enumerate", data := .fields #[.none, .bool false, .ref s.heap.objs.size, rawInt 0, .none, .none] } }) :=
  .of_wp fun prog w A R s h => by
    obtain ⟨hp, g, d, tk, os⟩ := s; obtain ⟨hg, h⟩ := h
    have hsub := sub_enumerate
    have hb : ∀ {A' : Around} {E : Value → Shared → Prop} {Q : Value → Shared → Prop}, Q (.ref hp.objs.size) ⟨hp.push o, g, d, tk, os⟩ → wpAny (model prog w) A' (pyIter v) Q E ⟨hp, g, d, tk, os⟩ := fun q => B.iter prog w _ _ ⟨hp, g, d, tk, os⟩ _ hg q
    wp_walk using hb
    refine (wpAny_stack_any fun z => wpAny_pure ?_)
    split
    · rename_i c _ _ _ _ _
      cases (c == Value.type "enumerate")
      · wp_walk using hb
        exact ⟨_, rfl, h⟩
      · wp_walk using hb
        exact ⟨_, rfl, h⟩
    · wp_walk using hb
      exact ⟨_, rfl, h⟩
section
variable {prog : Program} {w : World} {A : Around} {E : Value → Shared → Prop} {s : Shared}
theorem call_enumB {v : Value} {o : Obj} {G : Heap → Prop} {Q : Value → Shared → Prop} (B : Begins v o G) (hg : G s.heap)
    (h : ∀ h', IsEnum h' (s.heap.objs.size + 1) s.heap.objs.size 0 .none → h'.get? s.heap.objs.size = some o → (∀ b o, s.heap.get? b = some o → h'.get? b = some o) → Q (.ref (s.heap.objs.size + 1)) { s with heap := h' }) :
    wpAny (model prog w) A (call (.type "enumerate") [v]) Q E s := by
  refine callType_new F.called_enumerate (by decide) (F.typeCall_enumerate_1 _) (F.newCall_enumerate_1 _) (fun obj => F.args_object_init_2 obj _) F.entry_enumerate_new (meets_enumB B) ⟨hg, ?_⟩
  have hz : (s.heap.push o).objs.size = s.heap.objs.size + 1 := Heap.size_push ..
  show _ ∧ _
  rw [hz]
  have he : IsEnum ((s.heap.push o).push { cls := .type "enumerate", data := .fields #[.none, .bool false, .ref s.heap.objs.size, rawInt 0, .none, .none] }) (s.heap.objs.size + 1) s.heap.objs.size 0 .none := by
    have e := Heap.get?_push_size (s.heap.push o) (o := { cls := .type "enumerate", data := .fields #[.none, .bool false, .ref s.heap.objs.size, rawInt 0, .none, .none] }) rfl
    rw [hz] at e
    exact e
  refine ⟨⟨_, he, rfl⟩, h _ he ?_ fun b o x => ?_⟩
  · exact Heap.get?_push_of_some _ (Heap.get?_push_size _ B.free)
  · exact Heap.get?_push_of_some _ (Heap.get?_push_of_some _ x)
end
/-- the tuple at a, each item in a new pair -/
def Iteu (K : PySem.W.Frag) (a : Addr) (xs : List V) : It :=
  ⟨fun i H => SqT K H a xs ∧ i < xs.length, fun i H v H' => ∃ T x, v = .ref T ∧ H T = none ∧ H' = upd H T (.tup [.int (i : Nat), x]) ∧ xs[i]? = some x, fun i H => SqT K H a xs ∧ xs.length ≤ i⟩
theorem turn_enumT {P : Program} {w : World} {K : PySem.W.Frag} {elts : List Expr} {kk : Nat} {tpos : Pos} (a e it : Addr) (xs : List V) (hae : a ≠ e) (hai : a ≠ it) :
    Turn P w K (.Tuple elts kk tpos) (Iteu K a xs) [e, it] e (fun i h => (∃ old, IsEnum h e it ((i : Nat) : Int) old) ∧ h.IsTupleIter it a i ∧ e ≠ it ∧ i ≤ xs.length) where
  mem := by simp
  obj := fun i h st b hb => by
    obtain ⟨⟨old, he⟩, ⟨o, ho, hc, hd⟩, _⟩ := st
    rcases (by simpa using hb : b = e ∨ b = it) with z | z
    · rw [z]; exact ⟨_, he, fun v q => nomatch q⟩
    · rw [z]; exact ⟨o, ho, fun v q => by rw [hd] at q; cases q⟩
  keep := fun i h h' st k => by
    obtain ⟨⟨old, he⟩, hi, hne, hl⟩ := st
    exact ⟨⟨old, k e (by simp) _ he⟩, hi.at fun o q => k it (by simp) o q, hne, hl⟩
  item := by
    intro X hP hw hK hc i pins s σ H E I hf st hg
    subst hP hw hK
    obtain ⟨⟨old, he⟩, hit, hne, hle⟩ := st
    obtain ⟨hq, hi⟩ := hg
    obtain ⟨x, hx⟩ : ∃ x, xs[i]? = some x := ⟨_, List.getElem?_eq_getElem hi⟩
    obtain ⟨its, rv, p, _⟩ := I.tuple hq
    have p : s.heap.IsTuple a its.toArray := p
    obtain ⟨u, hu, ru⟩ := rv.get hx
    have hel : e < s.heap.objs.size := Heap.lt_size he
    have hil : it < s.heap.objs.size := by obtain ⟨_, q, _⟩ := hit; exact Heap.lt_size q
    have hlt : i < its.toArray.size := by
      have := (List.getElem?_eq_some_iff.mp hu).1
      simpa using this
    refine wpAny_pyNext_enum_itemD (Draws.tuple (A := X.A.in1) (I.ok.hd hc) it a hai its.toArray) he ⟨hit, p⟩ hlt hne (by simp [hne, Ne.symm hae]) fun y h' tk hy ho hst' hT hsz hk => ?_
    have ey : y = u := by
      have q1 : its[i]? = some y := by simpa using hy
      rw [hu] at q1
      exact (Option.some.inj q1).symm
    subst ey
    refine ⟨_, rfl, wpAny_letOwnedTupleGo_enum (s := { s with heap := h', toks := tk + 1 }) ho fun h'' he' sb => ?_⟩
    have hT2 : h''.get? s.heap.objs.size = some { cls := .type "tuple", data := .seq #[.int i tk, y] } := (sb.2 _ (Nat.ne_of_gt hel)).trans hT
    have new : ObjOk X.prog X.w (upd H s.heap.objs.size (.tup [.int (i : Nat), x])) h'' s.heap.objs.size (.tup [.int (i : Nat), x]) := ⟨by show 2 ≤ sizeLine; decide, [.int i tk, y], .cons ⟨_, rfl⟩ (.cons ru .nil), ⟨_, hT2, rfl, _, rfl⟩⟩
    have I1 : Inv X pins σ (upd H s.heap.objs.size (.tup [.int (i : Nat), x])) { s with heap := h'', toks := tk + 1 } := I.turnedNew (ch := [e, it]) (fun b ob hb q => (sb.2 b (fun z => hb (by simp [z]))).trans (hk b ob (fun z => hb (by simp [z])) (fun z => hb (by simp [z])) q)) hf (Nat.le_refl _) new
    refine ⟨.ref s.heap.objs.size, _, I1, rfl, ⟨_, x, rfl, I.hok.fresh (Nat.le_refl _), rfl, hx⟩, ⟨⟨y, ?_⟩, ?_, hne, hi⟩, fun b hb => ?_⟩
    · have e1 : ((i + 1 : Nat) : Int) = (i : Int) + 1 := by omega
      rw [e1]; exact he'
    · exact hst'.1.at fun o q => (sb.2 it (Ne.symm hne)).trans q
    · have hb' : b < s.heap.objs.size := by
        rcases (by simpa using hb : b = e ∨ b = it) with z | z
        · rw [z]; exact hel
        · rw [z]; exact hil
      rw [upd_ne (Nat.ne_of_lt hb')]
      exact (hf b hb).1
  done := by
    intro X hP hw hK hc i pins s σ H E I hf st hg
    subst hP hw hK
    obtain ⟨⟨old, he⟩, hit, hne, hle⟩ := st
    obtain ⟨hq, hx⟩ := hg
    obtain ⟨its, rv, p, _⟩ := I.tuple hq
    have p : s.heap.IsTuple a its.toArray := p
    obtain ⟨f0, f1, f2, f3, f4, f5⟩ := hf it (by simp)
    have hl := rv.length
    have hn : i = its.toArray.size := by simp; omega
    rw [hn] at hit
    exact wpAny_pyNext_enum_endD (Draws.tuple (A := X.A.in1) (I.ok.hd hc) it a hai its.toArray) he ⟨hit, p⟩ fun h' eb => ⟨rfl, I.turned (t' := s.toks) (fun b o hb q => eb b o hb q) f0 f1 f3 f4 f5⟩
  self := fun A i s Q E st h => let ⟨⟨_, he⟩, _⟩ := st; wpAny_pyIter_enum he h
def iEnumT (K : PySem.W.Frag) (ta : TA) : TI := fun σ H R => ta σ H fun vs H1 => ∃ a xs, vs = [.ref a] ∧ SqT K H1 a xs ∧ R (Iteu K a xs) H1
theorem pi_enumT {X : Cx} {e : Expr} {ta : TA} {p pos tpos : Pos} {elts : List Expr} {kk : Nat} (hg : Gl X "enumerate") (hm : X.mg "enumerate" = none) (ha : PA X [e] ta) (hs : starEach [e] X.env = [(false, eval e X.env)] := by rfl) :
    PI X (.Tuple elts kk tpos) (.Call (.Name "enumerate" p) [e] [] pos) (iEnumT X.K ta) := by
  refine ⟨fun pins s σ H R I h => Call_ (ld_blt I hg hm boot_enumerate (PyProof.Rows.callWith_type1 (thn (ha.run pos pins s σ H _ I h) fun us s1 ⟨vs, H1, I1, r1, q1⟩ => ?_) hs rfl))⟩
  obtain ⟨a, xs, ex, hq, q⟩ := q1
  subst ex
  rw [Vals.ref1 r1]
  obtain ⟨its, rv, p', hz⟩ := I1.tuple hq
  have p' : s1.heap.IsTuple a its.toArray := p'
  refine call_enumB (begins_tuple a its.toArray) p' fun h' he hit hk => wpAny_pyIter_enum he ?_
  have I2 : Inv X pins σ H1 { s1 with heap := h' } := I1.kept (t' := s1.toks) hk
  have hla : a < s1.heap.objs.size := by obtain ⟨_, q, _⟩ := p'; exact Heap.lt_size q
  refine ⟨s1.heap.objs.size + 1, [s1.heap.objs.size + 1, s1.heap.objs.size], _, _, H1, rfl, I2, turn_enumT a (s1.heap.objs.size + 1) s1.heap.objs.size xs (Nat.ne_of_lt (Nat.lt_succ_of_lt hla)) (Nat.ne_of_lt hla), ⟨⟨.none, he⟩, ⟨_, hit, rfl, rfl⟩, Nat.succ_ne_self _, Nat.zero_le _⟩, fun b hb => ?_, q⟩
  have hle : s1.heap.objs.size ≤ b := by
    rcases (by simpa using hb : b = s1.heap.objs.size + 1 ∨ b = s1.heap.objs.size) with z | z
    · rw [z]; exact Nat.le_succ _
    · rw [z]; exact Nat.le_refl _
  exact I1.fpOk hle (I1.hok.fresh hle)
theorem enumD_get : ∀ (xs : List D) (i k : Nat), (enumD k xs)[i]? = (xs[i]?).map fun x => .tuple [.int ((k + i : Nat) : Int), x]
  | [], i, k => by simp [enumD]
  | x :: xs, 0, k => by simp [enumD]
  | x :: xs, i + 1, k => by
    have := enumD_get xs i (k + 1)
    simp only [enumD, List.getElem?_cons_succ, this]
    congr 1
    funext y
    congr 4
    omega
theorem enumD_len : ∀ (xs : List D) (k : Nat), (enumD k xs).length = xs.length
  | [], _ => rfl
  | _ :: xs, k => by simp [enumD, enumD_len xs]
theorem enum_pair {K : PySem.W.Frag} {H0 H H' : Hp} {ds : List D} {xs : List V} {x : V} {T : Addr} {i : Nat} {d : D} (st : Stab H0 H) (df : DfAll K H0 xs ds) (e : (enumD 0 ds)[i]? = some d) (hT : H T = none) (hH : H' = upd H T (.tup [.int (i : Nat), x])) (hx : xs[i]? = some x) : L2.Same H H' ∧ RlD false K H' (.ref T) d := by
  subst hH
  have s : L2.Same H (upd H T (.tup [.int (i : Nat), x])) := fun b o q => by rw [upd_ne (ne_of_none q hT)]; exact q
  rw [enumD_get] at e
  cases q : ds[i]? with
  | none => rw [q] at e; cases e
  | some y =>
    rw [q] at e
    have e2 : PyData.tuple [.int ((0 + i : Nat) : Int), y] = d := by simpa using e
    rw [← e2, Nat.zero_add]
    obtain ⟨v', e1, dv⟩ := df.get q
    rw [hx] at e1; cases e1
    exact ⟨s, .inr ⟨T, _, _, rfl, rfl, .inl (.inl upd_same), .cons (.int _) (.cons (Df.mono (st.trans (Same.stab s)) dv) .nil)⟩⟩
theorem it_eT {K : PySem.W.Frag} {H0 : Hp} {a : Addr} {xs : List V} {ds : List D} (h : SqT K H0 a xs) (df : DfAll K H0 xs ds) : ItOk false K H0 (enumD 0 ds) (Iteu K a xs) := fun H i st => by
  refine ⟨fun d e => ⟨⟨st.sqT h, ?_⟩, fun x H' y => ?_⟩, fun hi => ⟨st.sqT h, ?_⟩⟩
  · have := (List.getElem?_eq_some_iff.mp e).1
    rw [enumD_len] at this
    rw [df.length]; exact this
  · obtain ⟨T, z, rfl, hT, hH, hx⟩ := y
    exact enum_pair st df e hT hH hx
  · rw [enumD_len] at hi
    rw [df.length]; exact hi
theorem it_eL {K : PySem.W.Frag} {H0 : Hp} {a : Addr} {xs : List V} {ds : List D} (h : FzL K H0 a xs) (df : DfAll K H0 xs ds) : ItOk false K H0 (enumD 0 ds) (Ite K a) := fun H i st => by
  refine ⟨fun d e => ?_, fun hi => ⟨xs, (st.fzL h).sq, ?_⟩⟩
  · have hl := (List.getElem?_eq_some_iff.mp e).1
    rw [enumD_len, ← df.length] at hl
    refine ⟨⟨xs, _, (st.fzL h).sq, List.getElem?_eq_getElem hl⟩, fun x H' y => ?_⟩
    obtain ⟨T, z, rfl, hT, hH, hx⟩ := y
    exact enum_pair st df e hT hH (hx xs (st.fzL h).sq)
  · rw [enumD_len] at hi
    rw [df.length]; exact hi
section
variable {X : Cx} {W : WX} {e : Expr} {m : AM} {p pos tpos : Pos} {elts : List Expr} {kk : Nat}
theorem rd_enum {K : PySem.W.Frag} {mg : Str → Option Value} {σ : L2.St} {H : Hp} {R : It → Hp → Prop} (h : rdI false w K mg W (mItA enum1 m) σ H R) : iEnum K (rdA w K mg W m) σ H R ∨ iEnumT K (rdA w K mg W m) σ H R := by
  obtain ⟨φ, ρ, S, eo, so, h⟩ := h
  unfold mItA at h
  cases q : m ρ S with
  | ok rs S1 =>
    rw [q] at h
    simp only [Res.bind_ok] at h
    split at h
    · rename_i ds q1
      unfold Res.opt enum1 at h
      match ds, h, q1 with
      | [.list xs], h, q1 =>
        left
        refine ⟨φ, ρ, S, eo, so, ?_⟩
        rw [q]
        intro φ1 H1 g1 so1 vs r1
        have df := all_df r1 q1
        cases df with
        | cons d1 t =>
          cases t
          obtain ⟨a, ys, rfl, hf, df⟩ := d1.list_at
          exact ⟨a, ys, rfl, hf.sq, h φ1 H1 g1 so1 _ _ (L2.Same.refl _) (it_eL hf df)⟩
      | [.tuple xs], h, q1 =>
        right
        refine ⟨φ, ρ, S, eo, so, ?_⟩
        rw [q]
        intro φ1 H1 g1 so1 vs r1
        have df := all_df r1 q1
        cases df with
        | cons d1 t =>
          cases t
          obtain ⟨a, ys, rfl, hf, df⟩ := d1.tup_at
          exact ⟨a, ys, rfl, hf.sq, h φ1 H1 g1 so1 _ _ (L2.Same.refl _) (it_eT hf.sq df)⟩
      | [], h, _ => exact h.elim
      | [.none], h, _ => exact h.elim
      | [.bool _], h, _ => exact h.elim
      | [.int _], h, _ => exact h.elim
      | [.str _], h, _ => exact h.elim
      | [.dict _], h, _ => exact h.elim
      | _ :: _ :: _, h, _ => exact h.elim
    · exact h.elim
  | ex x S1 =>
    left
    refine ⟨φ, ρ, S, eo, so, ?_⟩
    rw [q] at h ⊢
    exact h
  | no => rw [q] at h; exact h.elim
theorem i_enum (hm : X.mg "enumerate" = none) (ha : IA X W [e] m) (hg : Gl X "enumerate" := by rfl) (hs : starEach [e] X.env = [(false, eval e X.env)] := by rfl) : IIw X (.Tuple elts kk tpos) W (.Call (.Name "enumerate" p) [e] [] pos) (mItA enum1 m) :=
  PI.imp (PI.or (pi_enum hg hm ha hs) (pi_enumT hg hm ha hs)) fun _ _ _ h => rd_enum h
end
end Pi

set_option Elab.async false
set_option linter.all false
set_option maxRecDepth 100000
/-! Pi11: live cells changed; calls with one cell. -/
namespace Pi
open PySem PySem.Spec PyProof.Rows L2

def keyOf : D → Option L2.Key
  | .int i => some (.inl i)
  | .str x => some (.inr x)
  | _ => none
mutual
def kEq : D → D → Bool
  | .none, .none => true
  | .int i, .int j => decide (i = j)
  | .str x, .str y => decide (x = y)
  | .tuple xs, .tuple ys => kEqs xs ys
  | _, _ => false
def kEqs : List D → List D → Bool
  | [], [] => true
  | x :: xs, y :: ys => kEq x y && kEqs xs ys
  | _, _ => false
end
def getKv (kvs : List (D × R)) (k : D) : Option R := (kvs.find? fun p => kEq p.1 k).map (·.2)
def putKv (kvs : List (D × R)) (k : D) (r : R) : List (D × R) := if (kvs.any fun p => kEq p.1 k) = true then kvs.map fun p => if kEq p.1 k = true then (p.1, r) else p else kvs ++ [(k, r)]
/-- o[i] = v -/
def putR (S : Store) (o i v : R) : Option Store := match o with
  | .ref n => match i with
    | .d j => match S[n]? with
      | some (.lst xs) => match j, v with
        | .int k, .d y => match ixN xs.length k with
          | some m => some (S.set n (.lst (xs.set m y)))
          | none => none
        | _, _ => none
      | some (.dic kvs) => match keyOf j with
        | some _ => if kvs.length < sizeLine then some (S.set n (.dic (putKv kvs j v))) else none
        | none => none
      | _ => none
    | _ => none
  | _ => none
def mPut (o i v : EM) : SM := fun ρ S => (v ρ S).out ρ fun rv S1 => (o ρ S1).out ρ fun ro S2 => (i ρ S2).out ρ fun ri S3 => match putR S3 ro ri rv with
  | some S4 => .nx ρ S4
  | none => .no
def appR (S : Store) (o v : R) : Option Store := match o, v with
  | .ref n, .d y => match S[n]? with
    | some (.lst xs) => if xs.length < sizeLine then some (S.set n (.lst (xs ++ [y]))) else none
    | _ => none
  | _, _ => none
def isL (S : Store) : R → Bool
  | .ref n => match S[n]? with
    | some (.lst _) => true
    | _ => false
  | .d _ => false
/-- o.append(v) -/
def mApp (o v : EM) : EM := fun ρ S => (o ρ S).bind fun ro S1 => match isL S1 ro with
  | true => (v ρ S1).bind fun rv S2 => match appR S2 ro rv with
    | some S3 => .ok (.d .none) S3
    | none => .no
  | false => .no
/-- name += a new list -/
def mExt (i : Nat) (l : IM) : SM := fun ρ S => match ρ[i]? with
  | some (some (.ref n)) => (l ρ S).out ρ fun ds S1 => match S1[n]? with
    | some (.lst xs) => if xs.length + ds.length ≤ sizeLine then .nx ρ (S1.set n (.lst (xs ++ ds))) else .no
    | _ => .no
  | _ => .no
/-- {} -/
def mDic0 : EM := fun _ S => .ok (.ref S.length) (S ++ [.dic []])

section
variable {K : PySem.W.Frag} {φ : List Addr} {H : Hp} {S : Store}
theorem cell_upd {n : Nat} {a : Addr} {c : Cell} {o u : HO} (so : StOk w K φ H S) (ha : φ[n]? = some a) (e : H a = some o) (s : stable o = false) (hc : CellOk w K φ (upd H a u) a c) : Grow φ H φ (upd H a u) ∧ StOk w K φ (upd H a u) (S.set n c) := by
  have hm : a ∈ φ := List.mem_of_getElem? ha
  refine ⟨⟨List.prefix_refl _, fun b o' e' q => ?_, fun b hb => .inl hb⟩, ⟨by simp [so.len], so.nd, fun b hb => ?_, fun i b c' e1 e2 => ?_⟩⟩
  · have hne : b ≠ a := fun z => by
      subst z
      rw [e] at e'; cases e'
      rcases q with q | q
      · rw [s] at q; cases q
      · exact q hm
    rw [upd_ne hne]; exact e'
  · by_cases hb2 : b = a
    · rw [hb2]; exact ⟨_, upd_same⟩
    · obtain ⟨o', e'⟩ := so.there b hb
      exact ⟨o', by rw [upd_ne hb2]; exact e'⟩
  · by_cases hi : n = i
    · subst hi
      rw [ha] at e1; cases e1
      rw [List.getElem?_set_self (by have := (List.getElem?_eq_some_iff.mp ha).1; rw [← so.len]; exact this)] at e2
      cases e2
      exact hc
    · rw [List.getElem?_set_ne hi] at e2
      have hne : b ≠ a := fun z => by
        subst z
        have h1 := (List.getElem?_eq_some_iff.mp ha)
        have h2 := (List.getElem?_eq_some_iff.mp e1)
        obtain ⟨l1, g1⟩ := h1
        obtain ⟨l2, g2⟩ := h2
        exact hi ((List.getElem_inj so.nd).mp (g1.trans g2.symm))
      exact (so.cell i b c' e1 e2).mono (List.prefix_refl _) (upd_stab e s) fun o' e' => by rw [upd_ne hne]; exact e'
theorem keyD_of {j : D} {k : L2.Key} (e : keyOf j = some k) : keyD k = j := by
  cases j <;> simp [keyOf] at e <;> subst e <;> rfl
theorem dn_key {v : V} {j : D} {k : L2.Key} (h : Dn K H v j) (e : keyOf j = some k) : v = kV k := by
  cases j <;> simp [keyOf] at e
  · subst e; exact h.int_eq
  · subst e; exact h.str_eq
theorem kEq_iff (k k' : L2.Key) : kEq (keyD k) (keyD k') = decide (k = k') := by
  cases k <;> cases k' <;> simp [keyD, kEq]
theorem kv_any {kv : List (L2.Key × V)} {kvs : List (D × R)} (h : RelKv K φ H kv kvs) (k : L2.Key) : (kvs.any fun p => kEq p.1 (keyD k)) = kv.any fun p => decide (p.1 = k) := by
  induction h with
  | nil => rfl
  | cons h _ ih => rw [List.any_cons, List.any_cons, ih, ← h.1, kEq_iff]
theorem kv_map {kv : List (L2.Key × V)} {kvs : List (D × R)} (h : RelKv K φ H kv kvs) (k : L2.Key) {v : V} {r : R} (q : RelR K φ H v r) :
    RelKv K φ H (kv.map fun p => if p.1 = k then (p.1, v) else p) (kvs.map fun p => if kEq p.1 (keyD k) = true then (p.1, r) else p) := by
  induction h with
  | nil => exact .nil
  | @cons p t p' t' h _ ih =>
    refine .cons ?_ ih
    show keyD ((fun p : L2.Key × V => if p.1 = k then (p.1, v) else p) p).1 = (if kEq t.1 (keyD k) = true then (t.1, r) else t).1 ∧ RelR K φ H ((fun p : L2.Key × V => if p.1 = k then (p.1, v) else p) p).2 (if kEq t.1 (keyD k) = true then (t.1, r) else t).2
    rw [← h.1, kEq_iff]
    by_cases e : p.1 = k
    · rw [show decide (p.1 = k) = true from decide_eq_true e, if_pos rfl]
      show keyD (if p.1 = k then (p.1, v) else p).1 = _ ∧ RelR K φ H (if p.1 = k then (p.1, v) else p).2 _
      rw [if_pos e]; exact ⟨rfl, q⟩
    · rw [show decide (p.1 = k) = false from decide_eq_false e, if_neg Bool.false_ne_true]
      show keyD (if p.1 = k then (p.1, v) else p).1 = _ ∧ RelR K φ H (if p.1 = k then (p.1, v) else p).2 _
      rw [if_neg e]; exact ⟨h.1, h.2⟩
theorem kv_app {K : PySem.W.Frag} {φ : List Addr} {H : Hp} : ∀ {kv kv2 : List (L2.Key × V)} {kvs kvs2 : List (D × R)}, RelKv K φ H kv kvs → RelKv K φ H kv2 kvs2 → RelKv K φ H (kv ++ kv2) (kvs ++ kvs2)
  | _, _, _, _, .nil, s => s
  | _, _, _, _, .cons h t, s => .cons h (kv_app t s)
theorem kv_put {kv : List (L2.Key × V)} {kvs : List (D × R)} (h : RelKv K φ H kv kvs) {k : L2.Key} {j : D} (ej : keyOf j = some k) {v : V} {r : R} (q : RelR K φ H v r) : RelKv K φ H (putK kv k v) (putKv kvs j r) := by
  obtain rfl := keyD_of ej
  unfold putK putKv
  rw [kv_any h]
  split
  · exact kv_map h k q
  · exact kv_app h (.cons ⟨rfl, q⟩ .nil)
theorem kv_len {K : PySem.W.Frag} {φ : List Addr} {H : Hp} : ∀ {kv : List (L2.Key × V)} {kvs : List (D × R)}, RelKv K φ H kv kvs → kv.length = kvs.length
  | _, _, .nil => rfl
  | _, _, .cons _ t => by rw [List.length_cons, List.length_cons, kv_len t]
theorem kv_get {kv : List (L2.Key × V)} {kvs : List (D × R)} (h : RelKv K φ H kv kvs) (k : L2.Key) : match getKv kvs (keyD k) with
    | some r => ∃ v, valV kv k = some v ∧ RelR K φ H v r
    | none => valV kv k = none := by
  induction h with
  | nil => rfl
  | @cons p t p' t' h _ ih =>
    unfold getKv at ih ⊢
    rw [List.find?_cons, ← h.1, kEq_iff]
    by_cases e : p.1 = k
    · rw [decide_eq_true e]
      exact ⟨p.2, valV_pos e, h.2⟩
    · rw [decide_eq_false e, valV_neg e]
      exact ih
end
section
variable {X : Cx} {W : WX} {o i e : Expr} {mo mi mv : EM} {pos pos' apos cpos : Pos}
theorem PSet.or {t t' : TSet} (h : PSet X t) (h' : PSet X t') : PSet X (fun o i v H Q => t o i v H Q ∨ t' o i v H Q) := fun pins s σ H o i v ov iv u Q I ro ri rv q => q.elim (h pins s σ H o i v ov iv u Q I ro ri rv) (h' pins s σ H o i v ov iv u Q I ro ri rv)
theorem put_set {K : PySem.W.Frag} {φ : List Addr} {H : Hp} {S S4 : Store} {ro ri rv : R} {o i v : V} {Q : Hp → Prop} (so : StOk w K φ H S) (qo : RelR K φ H o ro) (qi : RelR K φ H i ri) (qv : RelR K φ H v rv) (e : putR S ro ri rv = some S4)
    (h : ∀ H', Grow φ H φ H' → StOk w K φ H' S4 → Q H') : rSetL o i v H Q ∨ rSetD o i v H Q := by
  unfold putR at e
  split at e
  · rename_i n
    split at e
    · rename_i j
      obtain ⟨a, ha, rfl⟩ := qo
      split at e
      · rename_i xs es
        split at e
        · rename_i k y
          split at e
          · rename_i m em
            cases e
            obtain ⟨vs, q1, q2⟩ := so.cell n a _ ha es
            cases qi
            left
            have eh := cell_upd (c := .lst (xs.set m y)) (u := .lst (vs.set m v)) so ha q1 rfl ⟨_, upd_same, DfAll.set (Df.mono (upd_stab q1 rfl) qv) m (DfAll.mono (upd_stab q1 rfl) q2)⟩
            exact ⟨a, vs, k, m, rfl, rfl, q1, by rw [q2.length]; exact em, h _ eh.1 eh.2⟩
          · cases e
        · cases e
      · rename_i kvs es
        split at e
        · rename_i k ek
          split at e
          · rename_i hl
            cases e
            obtain ⟨kv, q1, q2⟩ := so.cell n a _ ha es
            right
            have hi : i = kV k := dn_key (.of qi) ek
            have eh := cell_upd (c := .dic (putKv kvs j rv)) (u := .dK (putK kv k v)) so ha q1 rfl ⟨_, upd_same, kv_put (RelKv.mono (List.prefix_refl _) (upd_stab q1 rfl) q2) ek (RelR.mono (List.prefix_refl _) (upd_stab q1 rfl) qv)⟩
            exact ⟨a, _, rfl, .inl ⟨kv, k, q1, hi, by rw [kv_len q2]; exact hl, rfl⟩, h _ eh.1 eh.2⟩
          · cases e
        · cases e
      · cases e
    · cases e
  · cases e
theorem is_put (hu : X.A.units + 128 < cLine) (hv : IE X W e mv) (ho : IE X W o mo) (hi : IE X W i mi)
    (ha : ∀ v, assign (.Subscript o i pos') X.env v = (do
      let ov ← holding [v] (eval o X.env)
      let iv ← holding [v, ov] (eval i X.env)
      standAt pos'
      holding [v, ov, iv] (setItem ov iv v)
      release [v, ov, iv] []) := by intros; rfl)
    (hs : swapsWithSole [.Subscript o i pos'] e pos.line X.env = pure false := by rfl) (hw : swappedStores [.Subscript o i pos'] e X.env = pure none := by rfl) (h1 : (assignEach [.Subscript o i pos'] X.env).map (·.2) = [assign (.Subscript o i pos') X.env] := by rfl) :
    IS X W (.Assign [.Subscript o i pos'] e pos) (mPut mo mi mv) := PS.imp (ps_asg hv (pg_sub ho hi (PSet.or set_list (set_dict (by omega))) ha) hs hw h1) fun D σ H h => by
  obtain ⟨φ, ρ, S, eo, so, h⟩ := h
  refine ⟨φ, ρ, S, eo, so, (EndS.out eo h).imp fun rv φ1 S1 H1 _ g1 so1 h1 v q1 => ?_⟩
  refine ⟨φ1, ρ, S1, eo.grow g1, so1, (EndS.out (eo.grow g1) h1).imp fun ro φ2 S2 H2 _ g2 so2 h2 ov q2 => ?_⟩
  refine ⟨φ2, ρ, S2, (eo.grow g1).grow g2, so2, (EndS.out ((eo.grow g1).grow g2) h2).imp fun ri φ3 S3 H3 _ g3 so3 h3 iv q3 => ?_⟩
  split at h3
  · rename_i S4 e4
    exact put_set so3 (q2.grow g3) q3 ((q1.grow g2).grow g3) e4 fun H' g' so' => h3 φ3 σ H' g' so' (((eo.grow g1).grow g2).grow g3 |>.grow g')
  · exact h3.elim
theorem i_app (ho : IE X W o mo) (he : IE X W e mv) (hbase : attributeBase o "append" X.env (eval o X.env) = eval o X.env := by rfl)
    (hfew : ((backTo cpos (starEach [e] X.env)).all (fun x => !x.1) && (backToKw cpos (keywordEach [] X.env)).all (fun x => x.1.isSome) && decide ([e].length + ([] : List Keyword).length + (if ([] : List Keyword).isEmpty then 0 else 1) < 30)) = true := by rfl)
    (hline : (apos.endLine == cpos.line) = true := by rfl) (hs : starEach [e] X.env = (false, eval e X.env) :: starEach [] X.env := by rfl) (hplain : (backTo cpos (starEach [] X.env)).any (·.1) = false := by rfl) :
    IE X W (.Call (.Attribute o "append" apos) [e] [] cpos) (mApp mo mv) := PE.imp (pe_bm PySem.F.plainAttrs_list PySem.F.slot_list_append PySem.F.type_list_append mt_append ho (pa_cons he pa_nil hs) hbase hfew hline hs hplain) fun σ H Q h => by
  obtain ⟨φ, ρ, S, eo, so, h⟩ := h
  refine ⟨φ, ρ, S, eo, so, (EndR.bind h).imp fun ro φ1 S1 H1 _ g1 so1 h1 x q1 => ?_⟩
  split at h1
  · rename_i hl
    unfold isL at hl
    cases ro with
    | d y => cases hl
    | ref n =>
      simp only at hl
      split at hl
      · rename_i ys es
        obtain ⟨a, ha, rfl⟩ := q1
        obtain ⟨vs, e1, e2⟩ := so1.cell n a _ ha es
        refine ⟨.inl ⟨rfl, vs, .inl (.inl e1)⟩, ?_⟩
        refine ⟨φ1, ρ, S1, eo.grow g1, so1, (EndR.bind h1).imp fun rv φ2 S2 H2 _ g2 so2 h2 y q2 => ?_⟩
        split at h2
        · rename_i S3 e3
          cases rv with
          | ref _ => cases e3
          | d z =>
            unfold appR at e3
            simp only at e3
            split at e3
            · rename_i xs es2
              split at e3
              · rename_i hz
                cases e3
                have ha2 := g2.at_ ha
                obtain ⟨ws, f1, f2⟩ := so2.cell n a _ ha2 es2
                have eh := cell_upd (c := .lst (xs ++ [z])) (u := .lst (ws ++ [y])) so2 ha2 f1 rfl ⟨_, upd_same, (DfAll.mono (upd_stab f1 rfl) f2).append (.cons (Df.mono (upd_stab f1 rfl) q2) .nil)⟩
                refine ⟨a, ws, y, rfl, rfl, f1, by rw [f2.length]; exact hz, h2 φ2 _ eh.1 eh.2 _ .non⟩
              · cases e3
            · cases e3
        · exact h2.elim
      · cases hl
  · exact h1.elim
theorem is_ext (i : Nat) {x : Str} {e : Expr} {l : IM} {px : Pos} (hN : X.N.Nodup) (he : IN X W e l) (hi : X.N[i]? = some x := by rfl) (hx : Loc X.env.scope x := by first | exact Or.inl rfl | exact Or.inr rfl)
    (hf : X.fn x = true ∨ X.env.scope.names.lookup x = some .local := by first | exact .inl rfl | exact .inr rfl | assumption) : IS X W (.AugAssign (.Name x px) .Add e pos) (mExt i l) := PS.imp (ps_aug hN hi hx he iop_ext hf) fun D σ H h => by
  obtain ⟨φ, ρ, S, eo, so, h⟩ := h
  unfold mExt at h
  split at h
  · rename_i n en
    obtain ⟨v, e1, a, ha, rfl⟩ := eo.at_ i _ en
    refine ⟨_, e1, φ, ρ, S, eo, so, ?_⟩
    have h' := EndS.out eo h
    cases q : l ρ S with
    | ok ds S1 =>
      rw [q] at h'
      intro φ1 H1 g1 so1 p vs n1 np ep df
      have h2 := h' φ1 H1 g1 so1
      simp only at h2
      split at h2
      · rename_i xs es
        split at h2
        · rename_i hz
          have ha2 := g1.at_ ha
          obtain ⟨ws, f1, f2⟩ := so1.cell n a _ ha2 es
          have eh := cell_upd (c := .lst (xs ++ ds)) (u := .lst (ws ++ vs)) so1 ha2 f1 rfl ⟨_, upd_same, DfAll.mono (upd_stab f1 rfl) (f2.append df)⟩
          refine ⟨a, p, ws, vs, rfl, rfl, f1, ep, by rw [f2.length, df.length]; exact hz, ?_⟩
          have eo2 := ((eo.grow g1).grow eh.1).set (r := .ref n) (v := .ref a) ⟨a, ha2, rfl⟩ i
          have es2 : ρ.set i (some (.ref n)) = ρ := by
            refine List.ext_getElem? fun j => ?_
            by_cases hj : i = j
            · subst hj
              rw [List.getElem?_set_self (List.getElem?_eq_some_iff.mp en).1, en]
            · rw [List.getElem?_set_ne hj]
          rw [es2] at eo2
          exact h2 φ1 _ _ eh.1 eh.2 eo2
        · exact h2.elim
      · exact h2.elim
    | ex y S1 =>
      rw [q] at h'
      exact h'
    | no => rw [q] at h'; exact h'
  · exact h.elim
theorem i_dic0 : IE X W (.Dict [] [] pos) mDic0 := PE.imp pe_dnewK fun σ H Q h p hp => by
  obtain ⟨φ, ρ, S, eo, so, h⟩ := h
  have np : p ∉ φ := so.free hp
  have sm : L2.Same H (upd H p (.dK [])) := fun b o e => by rw [upd_ne (ne_of_none e hp)]; exact e
  have so1 := so.same sm
  refine h (φ ++ [p]) _ ⟨List.prefix_append _ _, fun b o e _ => sm b o e, fun b hb => ?_⟩ ⟨by simp [so.len], ?_, fun b hb => ?_, fun i b c e1 e2 => ?_⟩ _ ⟨p, ?_, rfl⟩
  · rcases List.mem_append.mp hb with hb | hb
    · exact .inl hb
    · rw [List.mem_singleton.mp hb]; exact .inr hp
  · exact List.nodup_append.mpr ⟨so.nd, by simp, fun a ha b hb => by rw [List.mem_singleton.mp hb]; exact fun z => np (z ▸ ha)⟩
  · rcases List.mem_append.mp hb with hb | hb
    · exact so1.there b hb
    · rw [List.mem_singleton.mp hb]; exact ⟨_, upd_same⟩
  · by_cases hi : i < φ.length
    · rw [List.getElem?_append_left hi] at e1
      rw [List.getElem?_append_left (by rw [← so.len]; exact hi)] at e2
      exact (so1.cell i b c e1 e2).mono (List.prefix_append _ _) (fun _ _ _ e => e) fun _ e => e
    · have hi' : i = φ.length := by
        have := (List.getElem?_eq_some_iff.mp e1).1
        simp at this; omega
      subst hi'
      rw [List.getElem?_append_right (Nat.le_refl _), Nat.sub_self] at e1
      rw [so.len, List.getElem?_append_right (Nat.le_refl _), Nat.sub_self] at e2
      simp at e1 e2
      subst e1; subst e2
      exact ⟨[], upd_same, .nil⟩
  · rw [← so.len, List.getElem?_append_right (Nat.le_refl _), Nat.sub_self]; rfl
/-- a call whose first argument alone is a cell -/
theorem rd_call1 {K : PySem.W.Frag} {mg : Str → Option Value} {n : Nat} {F : Fn} {am : AM} {σ : L2.St} {H : Hp} {Q : VK} (hn : ∀ ρ S rs S1, am ρ S = .ok rs S1 → rs.length = n) (h : rdE w K mg W (mCall1 F am) σ H Q) : tCallS (spF w K mg n F) (WE W) (rdA w K mg W am) σ H Q := by
  obtain ⟨φ, ρ, S, eo, so, h⟩ := h
  refine ⟨φ, ρ, S, eo, so, (EndR.bind h).imp fun rs φ1 S1 H1 ea g1 so1 h1 vs r1 => ?_⟩
  split at h1
  · rename_i i r
    split at h1
    · rename_i ds q
      have hl : vs.length = n := by rw [RelRs.length r1]; exact hn _ _ _ _ ea
      cases r1 with
      | @cons v1 _ vs' _ rv rt =>
      obtain ⟨a, ha, rfl⟩ := rv
      unfold run1 at h1
      split at h1
      · rename_i xs es
        obtain ⟨ws, e1, e2⟩ := so1.cell i a _ ha es
        have df := all_df rt q
        have hm : a ∈ φ1 := List.mem_of_getElem? ha
        refine ⟨[a], .ref 0 :: ds.map .d, [.lst xs], hl, ⟨rfl, by simp, fun b hb => by rw [List.mem_singleton.mp hb]; exact ⟨_, e1⟩, fun j b c f1 f2 => ?_⟩, .cons ⟨a, rfl, rfl⟩ df.rel, ?_⟩
        · cases j with
          | zero => simp at f1 f2; subst f1; subst f2; exact ⟨ws, e1, e2⟩
          | succ j => simp at f1
        · split at h1
          · rename_i z ys T q2
            rw [q2]
            intro φ' v H' g so' r'
            have kp : ∀ b o, H1 b = some o → b ≠ a → H' b = some o := fun b o e hb => g.keep b o e (.inr (by simpa using hb))
            have gg : Grow φ1 H1 φ1 H' := ⟨List.prefix_refl _, fun b o e qq => g.keep b o e (qq.imp id fun h hb => h (by rw [List.mem_singleton.mp hb]; exact hm)), fun b hb => .inl hb⟩
            have ha' : φ'[0]? = some a := g.at_ (i := 0) rfl
            have c0 := so'.cell 0 a (.lst ys) ha' rfl
            obtain ⟨us, f1, f2⟩ := c0
            refine h1 φ1 H' gg ⟨by simp [so1.len], so1.nd, fun b hb => ?_, fun j b c k1 k2 => ?_⟩ v r'
            · by_cases hb2 : b = a
              · rw [hb2]; exact ⟨_, f1⟩
              · obtain ⟨o, e⟩ := so1.there b hb
                exact ⟨o, kp b o e hb2⟩
            · by_cases hj : i = j
              · subst hj
                rw [ha] at k1; cases k1
                rw [List.getElem?_set_self (by rw [← so1.len]; exact (List.getElem?_eq_some_iff.mp ha).1)] at k2
                cases k2
                exact ⟨us, f1, f2⟩
              · rw [List.getElem?_set_ne hj] at k2
                have hne : b ≠ a := fun zz => by
                  subst zz
                  obtain ⟨l1, g1⟩ := List.getElem?_eq_some_iff.mp ha
                  obtain ⟨l2, g2⟩ := List.getElem?_eq_some_iff.mp k1
                  exact hj ((List.getElem_inj so1.nd).mp (g1.trans g2.symm))
                exact (so1.cell j b c k1 k2).mono (List.prefix_refl _) gg.stab fun o e => kp b o e hne
          · exact h1.elim
      · exact h1.elim
    · exact h1.elim
  · exact h1.elim
theorem i_call1 {x : Str} {n k : Nat} {F : Fn} {e : Expr} {es : List Expr} {am : AM} {p pos : Pos} (h : Fx X.prog X.w X.K X.mg X.base x n k F) (hr : Room k X.A) (tk : Takes X W) (ha : IA X W (e :: es) am) (hn : ∀ ρ S rs S1, am ρ S = .ok rs S1 → rs.length = n) (hg : Gl X x := by rfl) (hdb : (x == ("__debug__" : Str)) = false := by decide)
    (he : starEach (e :: es) X.env = (false, eval e X.env) :: starEach es X.env := by rfl) (hpl : (backTo pos (starEach es X.env)).any (·.1) = false := by rfl) : IE X W (.Call (.Name x p) (e :: es) [] pos) (mCall1 F am) :=
  PE.imp (call_core h hr tk ha hg hdb he hpl) fun _ _ _ h => rd_call1 hn h
/-- where nothing is said of an expression -/
def mNo : EM := fun _ _ => .no
theorem i_no {e : Expr} : IE X W e mNo := ⟨fun pins s σ H Q I h => by obtain ⟨φ, ρ, S, eo, so, h⟩ := h; exact h.elim⟩
def mNoS : SM := fun _ _ => .no
theorem is_no {st : Stmt} : IS X W st mNoS := ⟨fun pins s σ H D I h => by obtain ⟨φ, ρ, S, eo, so, h⟩ := h; exact h.elim⟩
end
end Pi

set_option Elab.async false
set_option linter.all false
set_option maxRecDepth 100000
/-! PiSet: set(l), l a list of ints (the kit has it of a tuple). -/
namespace Pi
open PySem PySem.Spec PyProof.Rows L2 HT

abbrev noSet (w : World) : Obj := { cls := .type "set", dict := none, data := .set #[] 0 (.fresh 0 0 (!w.params.followText "set-order")) }
section
variable {P : Program} {w : World} {A : Around} {E : Value → Shared → Prop} {s : Shared} {l : Addr} {items : Array Value}
set_option maxHeartbeats 3200000 in
theorem call_setL (ns : List Int) {Q : Value → Shared → Prop} (hh : A.handled = none) (hl : s.heap.IsList l items) (ia : IntsAre items.toList ns) (hb : ns.length + 1 < scanBound)
    (h : ∀ (hp : Heap) (tk c : Nat), SetR w hp s.heap.objs.size (fun j => decide (j ∈ ns)) c → c ≤ ns.length → (∀ b o, s.heap.get? b = some o → hp.get? b = some o) → Q (.ref s.heap.objs.size) { s with heap := hp, toks := tk }) :
    wpAny (model P w) A (call (.type "set") [.ref l]) Q E s := by
  have sz : items.size = ns.length := by have q := IntsAre.length ia; rw [Array.length_toList] at q; exact q
  obtain ⟨c, tl, hmro⟩ := F.called_set.mro
  have m1 := F.called_set.made
  have m2 := F.called_set.sub
  refine wpAny_call (codeAny_of_tree ?_)
  show wpAny _ _ (callAny (.type "set") _) _ _ _
  refine wpAny_pure ⟨(Code.quiet_builtin _ (by decide +kernel)), codeAny_builtin F.entry_type_call ?_⟩
  rw [Around.under_plain (weight_type_call_type "set" [.ref l] []) (by rfl)]
  have m3 := F.called_set.notType
  have m4 := F.called_set.canCreate
  have m5 := F.typeCall_set_1 (.ref l)
  repeat (any_goals (first | assumption | wp_step))
  refine codeAny_mono (code_set_led1 (.ref l) (E := E) (Q₁ := fun ob s1 => ob = .ref s.heap.objs.size ∧ s1 = { s with heap := s.heap.push (noSet w) }) ⟨rfl, rfl⟩) fun r s1 hr => ?_
  cases r with
  | error e => exact hr
  | ok fl =>
    cases fl with
    | ret ob =>
      obtain ⟨rfl, rfl⟩ := hr
      have gS : (s.heap.push (noSet w)).get? s.heap.objs.size = some (noSet w) := Heap.get?_push_size _ rfl
      have tS : Shared.TypeIs { s with heap := s.heap.push (noSet w) } (.ref s.heap.objs.size) "set" := ⟨_, gS, rfl⟩
      have n1 := F.called_set.init.lookup
      have n2 := F.called_set.init.bind (.ref s.heap.objs.size)
      repeat (any_goals (first | assumption | wp_step))
      refine codeAny_mono (codeAny_call_builtin (R := wants (fun r s2 => r = .none ∧ ∃ hp tk c, s2 = { s with heap := hp, toks := tk } ∧ SetR w hp s.heap.objs.size (fun j => decide (j ∈ ns)) c ∧ c ≤ ns.length ∧ (∀ b o, s.heap.get? b = some o → hp.get? b = some o)) E) F.called_set.init.plain F.entry_set_init (check_set_init_1 tS ?_)) fun r2 s2 hr2 => ?_
      · obtain ⟨⟨ocls, od, odat, osl⟩, ho, hcl, nl, hdl⟩ := hl
        simp only at hcl hdl
        subst hcl
        subst hdl
        have ho2 : (s.heap.push (noSet w)).get? l = some { cls := .type "list", dict := od, data := .seq items nl, slots := osl } := Heap.get?_push_of_some _ ho
        have q1 := F.sub_list_set
        have q2 := F.sub_list_frozenset
        have q3 : (Value.type "list" == Value.type "dict") = false := by decide
        have q4 : (s.heap.push (noSet w)).IsList l items := ⟨_, ho2, rfl, nl, rfl⟩
        unfold Builtin.«set.__init__» noKeywords Builtin.Frozenset.updateFrom
        generalize hPI : pyIter = PI
        wp_walk
        subst hPI
        refine wpAny_pyIter_list q4 ?_
        refine wpAny_bind (wpAny_runValue ?_)
        have lS : l < s.heap.objs.size := Heap.lt_size ho
        have h3 : A.in1.in1.in1.handled = none := by simp [hh]
        have neI : l ≠ (s.heap.push (noSet w)).objs.size := by rw [Heap.size_push]; exact Nat.ne_of_lt (Nat.lt_succ_of_lt lS)
        have nS : s.heap.objs.size ∉ [(s.heap.push (noSet w)).objs.size, l] := by
          rw [Heap.size_push]
          simp only [List.mem_cons, List.not_mem_nil, or_false, not_or]
          exact ⟨Nat.ne_of_lt (Nat.lt_succ_self _), Nat.ne_of_gt lS⟩
        have vals : ∀ (i : Nat) (v : Value), items[i]? = some v → ∃ k t, ns[i]? = some k ∧ v = .int k t := fun i v hv => by
          have hi : i < ns.length := by rw [← sz]; exact (Array.getElem?_eq_some_iff.mp hv).1
          obtain ⟨t, e⟩ := PyProof.Rows.IntsAre.int_at ia i v (by rw [Array.getElem?_toList]; exact hv)
          exact ⟨ns[i], t, List.getElem?_eq_getElem hi, by rw [e, List.getD_eq_getElem?_getD, List.getElem?_eq_getElem hi] <;> rfl⟩
        refine set_update_ints ((Walks.list h3 _ l neI items).toS) s.heap.objs.size nS ns sz hb vals (items.size - 0) 0 _ (by omega) (Nat.zero_le _) ⟨⟨_, Heap.get?_push_size _ rfl, rfl, rfl⟩, (q4.push _)⟩ ?hS0 ?hR
        case hS0 => exact ⟨0, Nat.le_refl 0, setR_new_at (show ((s.heap.push (noSet w)).push { cls := .type "list_iterator", data := .fields #[.ref l, .int 0 0] }).get? s.heap.objs.size = some (noSet w) from Heap.get?_push_of_some _ gS)⟩
        case hR =>
          intro s' c' hm hc' hS'
          obtain ⟨hp, g2, d2, tk2, os2⟩ := s'
          obtain rfl : g2 = s.gens := hm.gens
          obtain rfl : d2 = s.drawn := hm.drawn
          obtain rfl : os2 = s.os := hm.os
          show wpAny _ _ _ _ _ _
          refine wpAny_pure ?_
          show wpAny _ _ (ret Value.none) _ _ _
          rw [sz] at hc'
          refine wpAny_pure ⟨rfl, hp, tk2, c', rfl, hS', hc', fun b o e => ?_⟩
          have b0 : b < s.heap.objs.size := Heap.lt_size e
          have b1 : b ≠ s.heap.objs.size := Nat.ne_of_lt b0
          have b2 : b ≠ (s.heap.push (noSet w)).objs.size := by rw [Heap.size_push]; exact Nat.ne_of_lt (Nat.lt_succ_of_lt b0)
          exact hm.heap b o (by simp only [List.mem_cons, List.not_mem_nil, or_false, not_or]; exact ⟨b1, b2⟩) (Heap.get?_push_of_some _ (Heap.get?_push_of_some _ e))
      · cases r2 with
        | error e => exact hr2
        | ok fl2 =>
          cases fl2 with
          | ret r =>
            obtain ⟨rfl, hp, tk, c', rfl, f1, f2, f3⟩ := hr2
            repeat (any_goals (first | assumption | wp_step))
            exact h _ _ _ f1 f2 f3
          | _ => exact hr2.elim
    | _ => exact hr.elim
end
end Pi

set_option Elab.async false
set_option linter.all false
set_option maxRecDepth 100000
/-! Pi12: sorted. -/
namespace Pi
open PySem PySem.Spec PyProof.Rows L2

/-! ### sorted(set(ints)) -/
def insU (x : Int) : List Int → List Int
  | [] => [x]
  | y :: r => if x < y then x :: y :: r else if x = y then y :: r else y :: insU x r
def sortU : List Int → List Int
  | [] => []
  | x :: r => insU x (sortU r)
theorem insU_mem (x k : Int) : ∀ l : List Int, k ∈ insU x l ↔ k = x ∨ k ∈ l
  | [] => by simp [insU]
  | y :: r => by
    unfold insU
    split
    · simp
    · split
      · rename_i h; subst h; simp
      · rw [List.mem_cons, insU_mem x k r, List.mem_cons]
        constructor <;> rintro (h | h | h) <;> simp [h]
theorem insU_lt (x : Int) : ∀ l : List Int, l.Pairwise (· < ·) → (insU x l).Pairwise (· < ·)
  | [], _ => by simp [insU]
  | y :: r, h => by
    obtain ⟨h1, h2⟩ := List.pairwise_cons.mp h
    unfold insU
    split
    · rename_i hl
      refine List.pairwise_cons.mpr ⟨fun z hz => ?_, h⟩
      rcases List.mem_cons.mp hz with rfl | hz
      · exact hl
      · have := h1 z hz; omega
    · split
      · exact h
      · refine List.pairwise_cons.mpr ⟨fun z hz => ?_, insU_lt x r h2⟩
        rcases (insU_mem x z r).mp hz with rfl | hz
        · omega
        · exact h1 z hz
theorem sortU_mem (k : Int) : ∀ l : List Int, k ∈ sortU l ↔ k ∈ l
  | [] => by simp [sortU]
  | x :: r => by rw [sortU, insU_mem, sortU_mem k r, List.mem_cons]
theorem sortU_lt : ∀ l : List Int, (sortU l).Pairwise (· < ·)
  | [] => by simp [sortU]
  | x :: r => insU_lt x _ (sortU_lt r)
theorem lt_unique : ∀ {a b : List Int}, a.Pairwise (· < ·) → b.Pairwise (· < ·) → (∀ k, k ∈ a ↔ k ∈ b) → a = b
  | [], [], _, _, _ => rfl
  | [], y :: t, _, _, h => absurd ((h y).mpr List.mem_cons_self) (by simp)
  | x :: r, [], _, _, h => absurd ((h x).mp List.mem_cons_self) (by simp)
  | x :: r, y :: t, ha, hb, h => by
    obtain ⟨a1, a2⟩ := List.pairwise_cons.mp ha
    obtain ⟨b1, b2⟩ := List.pairwise_cons.mp hb
    have e : x = y := by
      have h1 := (h x).mp List.mem_cons_self
      have h2 := (h y).mpr List.mem_cons_self
      rcases List.mem_cons.mp h1 with h1 | h1
      · exact h1
      · rcases List.mem_cons.mp h2 with h2 | h2
        · exact h2.symm
        · have := a1 y h2; have := b1 x h1; omega
    subst e
    rw [lt_unique a2 b2 fun k => ?_]
    constructor
    · intro hk
      rcases List.mem_cons.mp ((h k).mp (List.mem_cons_of_mem _ hk)) with e | e
      · have := a1 k hk; omega
      · exact e
    · intro hk
      rcases List.mem_cons.mp ((h k).mpr (List.mem_cons_of_mem _ hk)) with e | e
      · have := b1 k hk; omega
      · exact e
def mSortSet (l : IM) : IM := fun ρ S => (l ρ S).bind fun ds S1 => match intsD ds with
  | some ns => if ns.length < 60 then .ok ((sortU ns).map .int) S1 else .no
  | none => .no
section
variable {X : Cx} {W : WX}
def rSetL (K : PySem.W.Frag) (w : World) : List V → Hp → VK → Prop := fun vs H Q => ∃ (a : Addr) (ns : List Int), vs = [V.ref a] ∧ SqL K H a (ns.map V.int) ∧ ns.length < 60 ∧ ∀ p c, c ≤ ns.length → H p = none → Q (.ref p) (upd H p (SetO w p (fun j => decide (j ∈ ns)) c))
theorem cr_setL (hc : X.calm = true) : CallR X (.type "set") (rSetL X.K X.w) := by
  intro pins s σ H vs us Q I r h
  obtain ⟨a, ns, rfl, hs, hz, q⟩ := h
  obtain ⟨its, rv, p, _⟩ := I.list hs
  have p : s.heap.IsList a its.toArray := p.isList
  rw [Vals.ref1 r]
  refine call_setL ns (I.ok.hd hc) p rv.ints (by unfold scanBound; omega) fun hp tk c R hc' hk => ?_
  exact ⟨.ref _, _, I.laid (t' := tk) (fun b u e => hk b u e) (Nat.le_refl _) (setO_new R), rfl, q _ c hc' (I.hok.fresh (Nat.le_refl _))⟩
theorem ints_v {K : PySem.W.Frag} {H : Hp} {vs : List V} {ds : List D} {ns : List Int} (h : DfAll K H vs ds) (e : intsD ds = some ns) : vs = ns.map V.int := ints_df h e
theorem ints_dfall {K : PySem.W.Frag} {H : Hp} : ∀ ns : List Int, DfAll K H (ns.map V.int) (ns.map .int)
  | [] => .nil
  | n :: ns => .cons (.int n) (ints_dfall ns)
theorem rd_sortSet {K : PySem.W.Frag} {w : World} {mg : Str → Option Value} {l : IM} {σ : L2.St} {H : Hp} {Q : VK} (h : rdN w K mg W (mSortSet l) σ H Q) :
    tCB (rSortedSet w) (tCons (tCB (rSetL K w) (tCons (rdN w K mg W l) tNil)) tNil) σ H Q := by
  obtain ⟨φ, ρ, S, eo, so, h⟩ := h
  refine ⟨φ, ρ, S, eo, so, ?_⟩
  have h' := EndR.bind h
  cases q : l ρ S with
  | ok ds S1 =>
    rw [q] at h'
    intro φ1 H1 g1 so1 p vs n np ep df
    have h1 := h' φ1 H1 g1 so1
    simp only at h1
    split at h1
    · rename_i ns en
      split at h1
      · rename_i hz
        have ev := ints_df df en
        subst ev
        refine ⟨p, ns, rfl, .inl (.inl ep), hz, fun p2 c hc hp2 => ?_⟩
        have hne : p2 ≠ p := fun z => by rw [z, ep] at hp2; cases hp2
        refine ⟨p2, _, c, rfl, upd_same, by omega, fun ms p3 h1' h2' h3' hp3 => ?_⟩
        have em : ms = sortU ns := lt_unique h1' (sortU_lt ns) fun k => by rw [h2' k, sortU_mem]; simp
        subst em
        have hp3n : p3 ≠ p2 := fun z => by rw [z, upd_same] at hp3; cases hp3
        have hp3' : H1 p3 = none := by rw [upd_ne hp3n] at hp3; exact hp3
        have s1 : L2.Same H1 (upd (upd H1 p2 (SetO w p2 (fun j => decide (j ∈ ns)) c)) p3 (.lst ((sortU ns).map V.int))) := fun b o e => by
          rw [upd_ne (ne_of_none e hp3'), upd_ne (ne_of_none e hp2)]; exact e
        exact h1 φ1 _ (Grow.same s1) (so1.same s1) p3 _ (Grow.none g1 hp3' (so1.free hp3')) (so1.free hp3') upd_same (ints_dfall _)
      · exact h1.elim
    · exact h1.elim
  | ex x S1 =>
    rw [q] at h'
    exact h'
  | no => rw [q] at h'; exact h'
theorem i_sortSet {e : Expr} {l : IM} {p p2 pos pos2 : Pos} (h : IN X W e l) (hm : X.mg "sorted" = none) (hm2 : X.mg "set" = none) (hc : X.calm = true := by rfl) (hg : Gl X "sorted" := by rfl) (hg2 : Gl X "set" := by rfl)
    (he2 : starEach [e] X.env = (false, eval e X.env) :: starEach [] X.env := by rfl) (hpl2 : (backTo pos2 (starEach [] X.env)).any (·.1) = false := by rfl)
    (he : starEach [.Call (.Name "set" p2) [e] [] pos2] X.env = (false, eval (.Call (.Name "set" p2) [e] [] pos2) X.env) :: starEach [] X.env := by rfl) (hpl : (backTo pos (starEach [] X.env)).any (·.1) = false := by rfl) :
    IN X W (.Call (.Name "sorted" p) [.Call (.Name "set" p2) [e] [] pos2] [] pos) (mSortSet l) :=
  PE.imp (pe_callB (cr_sortedSet hc) hg hm boot_sorted (pa_cons (pe_callTy (cr_setL hc) hg2 hm2 boot_set (pa_cons h pa_nil he2) (by decide) (by decide) he2 hpl2) pa_nil he) (by decide) (by decide) he hpl) fun _ _ _ h => rd_sortSet h
end

/-! ### sorted(a list) -/
def isTup1 : D → Bool
  | .tuple (_ :: _) => true
  | _ => false
def noNT : D → Bool
  | .none => false
  | .tuple _ => false
  | _ => true
def okSort (ds : List D) : Bool := (ds.all fun d => ds.all fun e => PySem.W.alike d e) && ((ds.all isTup1 || ds.all noNT) && (ds.all (fun d => decide (d.depth ≤ 100)) && decide (ds.length ≤ sizeLine)))
/-- a stable sort that the kernel can run -/
def insLe {α : Type} (le : α → α → Bool) (a : α) : List α → List α
  | [] => [a]
  | b :: r => if le a b then a :: b :: r else b :: insLe le a r
def sortBy {α : Type} (le : α → α → Bool) : List α → List α
  | [] => []
  | a :: l => insLe le a (sortBy le l)
theorem insLe_at {α : Type} {le : α → α → Bool} {a : α} : ∀ {l1 l2 : List α}, (∀ b ∈ l1, le a b = false) → (∀ b ∈ l2, le a b = true) → insLe le a (l1 ++ l2) = l1 ++ a :: l2
  | [], [], _, _ => rfl
  | [], c :: l2, _, h2 => by
    show (if le a c then _ else _) = _
    rw [if_pos (h2 c List.mem_cons_self)]; rfl
  | b :: l1, l2, h1, h2 => by
    show (if le a b then _ else _) = _
    rw [h1 b List.mem_cons_self, if_neg Bool.false_ne_true]
    show b :: insLe le a (l1 ++ l2) = _
    rw [insLe_at (fun b' hb => h1 b' (List.mem_cons_of_mem _ hb)) h2]; rfl
theorem sortBy_eq {α : Type} {le : α → α → Bool} (tr : ∀ a b c, le a b = true → le b c = true → le a c = true) (to : ∀ a b, (le a b || le b a) = true) : ∀ l : List α, sortBy le l = l.mergeSort le
  | [] => by simp [sortBy]
  | a :: l => by
    obtain ⟨l1, l2, e1, e2, h⟩ := List.mergeSort_cons (le := le) tr to a l
    have pw := List.pairwise_mergeSort (le := le) tr to (a :: l)
    rw [e1] at pw
    rw [sortBy, sortBy_eq tr to l, e1, e2]
    refine insLe_at (fun b hb => by simpa using h b hb) fun b hb => ?_
    have := (List.pairwise_append.mp pw).2.1
    exact (List.pairwise_cons.mp this).1 b hb
def sortD (ds : List D) : List D := sortBy (PySem.W.dataLe false id) ds
theorem sortD_eq (ds : List D) : sortD ds = ds.mergeSort (PySem.W.dataLe false id) := sortBy_eq (PySem.W.sortLe_total _ false _).trans (fun a b => Bool.or_eq_true_iff.mpr ((PySem.W.sortLe_total _ false _).total a b)) ds
def sortedD : List D → Option (List D)
  | [.list xs] => if okSort xs then some (sortD xs) else none
  | _ => none
theorem okSort_all {ds : List D} (h : okSort ds = true) : PySem.W.AllAlike ds ∧ PySem.W.Sortable ds ∧ (∀ d ∈ ds, d.depth ≤ 100) ∧ ds.length ≤ sizeLine := by
  unfold okSort at h
  simp only [Bool.and_eq_true, Bool.or_eq_true, List.all_eq_true, decide_eq_true_eq] at h
  obtain ⟨h1, h2, h3, h4⟩ := h
  refine ⟨fun d hd e he => h1 d hd e he, ?_, h3, h4⟩
  rcases h2 with h2 | h2
  · refine .inl fun d hd => ?_
    have := h2 d hd
    unfold isTup1 at this
    split at this
    · exact ⟨_, _, rfl⟩
    · cases this
  · refine .inr fun d hd => ?_
    have := h2 d hd
    unfold noNT at this
    split at this
    · cases this
    · cases this
    · rename_i n1 n2
      exact ⟨n1, n2⟩
/-- a value of ours that is d -/
def IsD' (K : PySem.W.Frag) (H : Hp) (u : Value) (d : D) : Prop := ∃ v, RelV v u ∧ Df K H v d
theorem each_of {K : PySem.W.Frag} {H : Hp} : ∀ {vs : List V} {us : List Value} {ds : List D}, Vals vs us → DfAll K H vs ds → PySem.W.EachIs (IsD' K H) us ds
  | _, _, _, .nil, .nil => .nil
  | _, _, _, .cons r rs, .cons h t => .cons ⟨_, r, h⟩ (each_of rs t)
theorem of_each {K : PySem.W.Frag} {H : Hp} : ∀ {us : List Value} {ds : List D}, PySem.W.EachIs (IsD' K H) us ds → ∃ vs, Vals vs us ∧ DfAll K H vs ds
  | _, _, .nil => ⟨[], .nil, .nil⟩
  | _, _, .cons h t => by
    obtain ⟨v, r, d⟩ := h
    obtain ⟨vs, rs, ds⟩ := of_each t
    exact ⟨v :: vs, .cons r rs, .cons d ds⟩
section
variable {X : Cx} {W : WX}
theorem each_reads {pins : List (Addr × Obj)} {σ : L2.St} {H : Hp} {s : Shared} (I : Inv X pins σ H s) {us : List Value} {ds : List D} (h : PySem.W.EachIs (IsD' X.K H) us ds) : PySem.W.EachIs (fun u d => ∃ as, Reads s.heap u (id d) as) us ds :=
  h.mono fun u d ⟨v, r, hd⟩ => Dn.reads I (.of hd) r
theorem c_sorted (hu : X.A.units + 128 < cLine) : CallR X (.builtin "sorted") (cbRdL X.K sortedD) := by
  intro pins s σ H xs us Q I r h
  obtain ⟨ds, zs, h1, e, q⟩ := h
  unfold sortedD at e
  split at e
  · rename_i ys
    split at e
    · rename_i ok
      cases e
      obtain ⟨o1, o2, o3, o4⟩ := okSort_all ok
      obtain ⟨v, rfl, dn⟩ := dn1 h1
      obtain ⟨a, vs, rfl, hs, t⟩ := dn.list_at
      obtain ⟨its, rv, p, _⟩ := I.list hs
      have p : s.heap.IsList a its.toArray := p.isList
      rw [Vals.ref1 r]
      have ea := each_of rv t
      rw [sortD_eq] at q
      refine PySem.W.sorted_data (enc := id) (R := IsD' X.K H) p ea (each_reads I ea) (by rw [List.map_id]; exact o1) (by rw [List.map_id]; exact o2) o4 (fun b hb => by have := o3 b hb; show _ + b.depth < _; omega) fun out hl eo => ?_
      obtain ⟨ws, rw2, dw⟩ := of_each eo
      obtain ⟨c, hc⟩ := PyProof.Rows.sortedAll_at s.heap its out.toArray
      have hf : H (s.heap.objs.size + 1) = none := I.hok.fresh (Nat.le_succ _)
      have s1 : L2.Same H (upd H (s.heap.objs.size + 1) (.lst ws)) := fun b o e => by rw [upd_ne (ne_of_none e hf)]; exact e
      refine ⟨.ref (s.heap.objs.size + 1), _, I.laid (a := s.heap.objs.size + 1) (o := .lst ws) (t' := s.toks) (fun b u e => PyProof.Rows.sortedAll_old e) (Nat.le_succ _) ⟨?_, out, c, rw2, hc⟩, rfl, q _ ws _ s1 hf upd_same (DfAll.mono (Same.stab s1) dw)⟩
      rw [dw.length]
      show (List.mergeSort ys _).length ≤ _
      rw [List.length_mergeSort]; exact o4
    · cases e
  · cases e
end
end Pi

set_option Elab.async false
set_option linter.all false
set_option maxRecDepth 100000
/-! Pi13: sorted(d.items()) of a live dict. -/
namespace Pi
open PySem PySem.Spec PyProof.Rows L2 L2.DX

def pairsR : List (D × R) → Option (List D)
  | [] => some []
  | (k, .d v) :: t => match pairsR t with
    | some r => some (.tuple [k, v] :: r)
    | none => none
  | (_, .ref _) :: _ => none
mutual
/-- no list in it -/
def noL : D → Bool
  | .list _ => false
  | .dict _ => false
  | .tuple xs => noLs xs
  | _ => true
def noLs : List D → Bool
  | [] => true
  | x :: xs => noL x && noLs xs
end
mutual
theorem reads_noL {h : Heap} : ∀ {d : D} {u : Value} {as : List Addr}, noL d = true → Reads h u d as → as = []
  | .none, _, _, _, r => by cases r; rfl
  | .bool _, _, _, _, r => by cases r; rfl
  | .int _, _, _, _, r => by cases r; rfl
  | .str _, _, _, _, r => by cases r; rfl
  | .list _, _, _, n, _ => by cases n
  | .dict _, _, _, n, _ => by cases n
  | .tuple xs, _, _, n, r => by
    cases r with
    | tuple h1 h2 h3 h4 => exact reads_noLs (by simpa [noL] using n) h4
theorem reads_noLs {h : Heap} : ∀ {ds : List D} {us : List Value} {as : List Addr}, noLs ds = true → ReadsAll h us ds as → as = []
  | [], _, _, _, r => by cases r; rfl
  | d :: ds, _, _, n, r => by
    unfold noLs at n
    simp only [Bool.and_eq_true] at n
    cases r with
    | cons h1 h2 => rw [reads_noL n.1 h1, reads_noLs n.2 h2]; rfl
end
def itemsD (kvs : List (D × R)) : Option (List D) := if kvs.length < 1000 then match pairsR kvs with
  | some ps => if okSort ps && noLs ps then some (sortD ps) else none
  | none => none
  else none
/-- sorted(d.items()) -/
def mSortItems (d : EM) : IM := fun ρ S => (d ρ S).bind fun r S1 => match r with
  | .ref n => match S1[n]? with
    | some (.dic kvs) => Res.opt (itemsD kvs) S1
    | _ => .no
  | .d _ => .no
section
variable {X : Cx} {W : WX}
def rItemsK : V → List V → Hp → VK → Prop := fun x xs H Q => ∃ (a : Addr) (kv : List (L2.Key × V)), x = .ref a ∧ xs = [] ∧ H a = some (.dK kv) ∧ ∀ p, H p = none → Q (.ref p) (upd H p (itemsO p a))
theorem mt_itemsK : MtR X "dict.items" rItemsK := by
  intro pins s σ H x xs v us Q I rx rxs h
  obtain ⟨a, kv, rfl, rfl, ha, q⟩ := h
  cases rx
  cases rxs
  obtain ⟨z, hd, vs, rel, o, es, ep, ho, hx, hdat, _⟩ := dk_of I.hok ha
  refine DT.callItems (es := es) (ep := ep) hd ⟨o, ho, hx, hdat⟩ ⟨.ref s.heap.objs.size, upd H s.heap.objs.size (itemsO s.heap.objs.size a), ?_, rfl, q _ (I.hok.fresh (Nat.le_refl _))⟩
  exact I.laid (t' := s.toks) (fun b u e => Heap.get?_push_of_some _ e) (Nat.le_refl _) (itemsO_ok (Heap.get?_push_size _ rfl))
theorem pairs_at {P : Program} {w : World} {κ : Type} [DecidableEq κ] {knd : KeyKind P w κ} : ∀ {es : List DictEntry} {kvs : List (κ × Value)}, Pairs knd es kvs → ∀ (j : Nat) (e : DictEntry), es[j]? = some e → ∃ q, kvs[j]? = some q ∧ knd.is q.1 e.key = true ∧ e.val = q.2
  | _, _, .nil, j, e, h => by simp at h
  | _, _, .cons h1 h2 t, 0, e, h => by simp at h; subst h; exact ⟨_, rfl, h1, h2⟩
  | _, _, .cons h1 h2 t, j + 1, e, h => by
    obtain ⟨q, e1, e2⟩ := pairs_at t j e (by simpa using h)
    exact ⟨q, by simpa using e1, e2⟩
theorem kv_at {κ : Type} : ∀ {kv : List (κ × V)} {vs : List (κ × Value)}, KV kv vs → ∀ (j : Nat) (q : κ × Value), vs[j]? = some q → ∃ p, kv[j]? = some p ∧ p.1 = q.1 ∧ RelV p.2 q.2
  | _, _, .nil, j, q, h => by simp at h
  | _, _, .cons h1 t, 0, q, h => by simp at h; subst h; exact ⟨_, rfl, h1⟩
  | _, _, .cons h1 t, j + 1, q, h => by
    obtain ⟨p, e1, e2⟩ := kv_at t j q (by simpa using h)
    exact ⟨p, by simpa using e1, e2⟩
theorem _root_.L2.Inv.lays {X : Cx} {pins : List (Addr × Obj)} {σ : L2.St} {H H' : Hp} {s : Shared} {h' : Heap} {tk : Nat} (I : Inv X pins σ H s) (hk : ∀ b o, s.heap.get? b = some o → h'.get? b = some o) (kp : ∀ b u, H b = some u → H' b = some u)
    (new : ∀ b u, H' b = some u → H b = some u ∨ (s.heap.get? b = none ∧ ObjOk X.prog X.w H' h' b u)) : Inv X pins σ H' { s with heap := h', toks := tk } := by
  refine I.call' (ch := []) rfl ⟨fun b o q _ _ _ => hk b o q, fun b o q _ _ _ => ⟨o.slots, hk b o q⟩, fun b o q n _ => ?_, fun b o q _ => ⟨o, hk b o q⟩, fun b xs q => kp b _ q, fun b o u q => kp b _ q, fun b ps q => ⟨#[], by rw [kp b _ q]; simp⟩⟩ (fun b u q => ?_) I.bare fun b z => by simp at z
  · cases e : H' b with
    | none => rfl
    | some u =>
      rcases new b u e with z | z
      · rw [n] at z; cases z
      · rw [q] at z; cases z.1
  · rcases new b u q with z | z
    · exact (I.hok b u z).stay (fun d v _ y => hk d v y) (fun d y => kp d _ y) fun d xs y => kp d _ y
    · exact z.2
/-- tuples that stand at as, told as the objects that they are -/
def frzAll (h : Heap) (as : List Addr) (G : Hp) : Hp := fun b => if b ∈ as then (match G b with
  | some (.tup xs) => (match h.get? b with
    | some o => some (.frz o (.tup xs))
    | none => none)
  | u => u) else G b
theorem frzAll_off {h : Heap} {as : List Addr} {G : Hp} {b : Addr} (n : b ∉ as) : frzAll h as G b = G b := if_neg n
theorem frzAll_at {h : Heap} {as : List Addr} {G : Hp} {b : Addr} {xs : List V} {o : Obj} (hb : b ∈ as) (e : G b = some (.tup xs)) (e2 : h.get? b = some o) : frzAll h as G b = some (.frz o (.tup xs)) := by
  unfold frzAll
  rw [if_pos hb, e, e2]
theorem paired_mem {α β : Type} {R R' : α → β → Prop} : ∀ {as : List α} {bs : List β}, Paired R as bs → (∀ a ∈ as, ∀ b, R a b → R' a b) → Paired R' as bs
  | _, _, .nil, _ => .nil
  | _, _, .cons h t, f => .cons (f _ List.mem_cons_self _ h) (paired_mem t fun a ha b r => f a (List.mem_cons_of_mem _ ha) b r)
def IsPr (K : PySem.W.Frag) (H : Hp) (as : List Addr) (u : Value) (d : D) : Prop := ∃ b, u = .ref b ∧ b ∈ as ∧ Df K H (.ref b) d
theorem pairs_each {K : PySem.W.Frag} {φ : List Addr} {H H1 : Hp} (st : Stab H H1) (all : List Addr) : ∀ {kv : List (L2.Key × V)} {kvs : List (D × R)} {ps : List D} {as : List Addr}, RelKv K φ H kv kvs → pairsR kvs = some ps → (∀ b ∈ as, b ∈ all) →
    Paired (fun (t : Addr) (p : L2.Key × V) => FzT H1 t [kV p.1, p.2]) as kv → PySem.W.EachIs (IsPr K H1 all) (as.map Value.ref) ps
  | _, _, _, [], .nil, e, _, _ => by cases e; exact .nil
  | _, _, _, _ :: _, .nil, e, _, g => by cases g
  | _, _, _, [], .cons _ _, e, _, g => by cases g
  | _, _, ps, b :: as, .cons (a := p) (b := q) h t, e, hm, g => by
    obtain ⟨qk, qv⟩ := q
    cases qv with
    | ref i => cases e
    | d y =>
      unfold pairsR at e
      split at e
      · rename_i r er
        cases e
        cases g with
        | cons g1 g2 =>
        refine .cons ⟨b, rfl, hm b List.mem_cons_self, .tup g1 (.cons ?_ (.cons (Df.mono st h.2) .nil))⟩ (pairs_each st all t er (fun b' hb => hm b' (List.mem_cons_of_mem _ hb)) g2)
        have e3 : keyD p.1 = qk := h.1
        rw [← e3]
        cases p.1
        · exact .int _
        · exact .str _
      · cases e
theorem refs_of {K : PySem.W.Frag} {H : Hp} {as : List Addr} : ∀ {us : List Value} {ds : List D}, PySem.W.EachIs (IsPr K H as) us ds → ∃ bs : List Addr, us = bs.map Value.ref ∧ DfAll K H (bs.map V.ref) ds
  | _, _, .nil => ⟨[], rfl, .nil⟩
  | _, _, .cons h t => by
    obtain ⟨b, rfl, _, d⟩ := h
    obtain ⟨bs, rfl, ds⟩ := refs_of t
    exact ⟨b :: bs, rfl, .cons d ds⟩
theorem noLs_mem : ∀ {ds : List D}, noLs ds = true → ∀ d ∈ ds, noL d = true
  | [], _, d, h => by cases h
  | x :: xs, n, d, h => by
    unfold noLs at n
    simp only [Bool.and_eq_true] at n
    rcases List.mem_cons.mp h with rfl | h
    · exact n.1
    · exact noLs_mem n.2 d h
theorem each_mem' {α β : Type} {Q : α → β → Prop} : ∀ {us : List α} {ds : List β}, PySem.W.EachIs Q us ds → ∀ {Q' : α → β → Prop}, (∀ u, ∀ d ∈ ds, Q u d → Q' u d) → PySem.W.EachIs Q' us ds
  | _, _, .nil, _, _ => .nil
  | _, _, .cons h t, _, f => .cons (f _ _ List.mem_cons_self h) (each_mem' t fun u d hd => f u d (List.mem_cons_of_mem _ hd))
def rSortIt (K : PySem.W.Frag) : List V → Hp → VK → Prop := fun vs H Q => ∃ (p a : Addr) (kv : List (L2.Key × V)) (φ : List Addr) (kvs : List (D × R)) (zs : List D), vs = [.ref p] ∧ H p = some (itemsO p a) ∧ H a = some (.dK kv) ∧ RelKv K φ H kv kvs ∧ itemsD kvs = some zs ∧
  ∀ q ws H', L2.Same H H' → H q = none → H' q = some (.lst ws) → DfAll K H' ws zs → Q (.ref q) H'
theorem cr_sortIt (hc : X.calm = true) (hu : X.A.units + 128 < cLine) : CallR X (.builtin "sorted") (rSortIt X.K) := by
  intro pins s σ H xs us Q I r h
  obtain ⟨p, a, kv, φ, kvs, zs, rfl, hp, ha, rk, ei, q⟩ := h
  rw [Vals.ref1 r]
  unfold itemsD at ei
  split at ei
  · rename_i hlen
    split at ei
    · rename_i ps eps
      split at ei
      · rename_i ok
        cases ei
        simp only [Bool.and_eq_true] at ok
        obtain ⟨o1, o2, o3, o4⟩ := okSort_all ok.1
        have view : s.heap.IsItemsView p a := (show ObjOk X.prog X.w H s.heap p (itemsO p a) from I.hok p _ hp).1
        obtain ⟨z, hd, vs, rel, o, es, ep, ho, hx, hdat, _, hpr, _⟩ := dk_of I.hok ha
        have l1 : kv.length = vs.length := Paired.length rel
        have l2 : es.size = vs.length := by have := hpr.length; simpa using this
        have l3 := kv_len rk
        refine DT.sortedI (es := es) (ep := ep) (I.ok.hd hc) view ⟨o, ho, hx, hdat⟩ (by rw [sizeLine_eq]; omega) fun h' tk as hk hlt hl hG => ?_
        have nd : as.Nodup := List.Pairwise.imp (fun h => Nat.ne_of_lt h) hG.rise
        have lak : as.length = kv.length := by omega
        have hob : (h'.push { cls := .type "list", data := .seq (as.map Value.ref).toArray }).get? h'.objs.size = some (seqObj "list" (as.map Value.ref).toArray 0) := Heap.get?_push_size _ rfl
        have kb : ∀ b o, h'.get? b = some o → (h'.push { cls := .type "list", data := .seq (as.map Value.ref).toArray }).get? b = some o := fun b o e => Heap.get?_push_of_some _ e
        generalize hh2 : h'.push { cls := .type "list", data := .seq (as.map Value.ref).toArray } = h2 at hob kb ⊢
        have low : ∀ b ∈ as, s.heap.objs.size < b := hG.above
        have newA : ∀ b ∈ as, H b = none := fun b hb => I.hok.fresh (Nat.le_of_lt (low b hb))
        have sNone : ∀ b, s.heap.objs.size ≤ b → s.heap.get? b = none := fun b hb => by
          cases e : s.heap.get? b with
          | none => rfl
          | some o => exact absurd (Heap.lt_size e) (Nat.not_lt.mpr hb)
        have atP := LiI.putT_at as kv H lak nd
        generalize hH0 : LiI.putT H as kv = H0 at atP
        generalize hH1 : frzAll h' as H0 = H1
        have off : ∀ b, b ∉ as → H1 b = H b := fun b hb => by rw [← hH1, frzAll_off hb, ← hH0]; exact LiI.putT_off as kv H hb
        have kp : ∀ b u, H b = some u → H1 b = some u := fun b u e => by rw [off b (fun z => by rw [newA b z] at e; cases e)]; exact e
        have here : ∀ b ∈ as, ∃ (j : Nat) (pk : L2.Key × V) (en : DictEntry), as[j]? = some b ∧ kv[j]? = some pk ∧ es[j]? = some en ∧ h'.get? b = some { cls := .type "tuple", data := .seq #[en.key, en.val] } ∧ H0 b = some (.tup [kV pk.1, pk.2]) ∧
            H1 b = some (.frz { cls := .type "tuple", data := .seq #[en.key, en.val] } (.tup [kV pk.1, pk.2])) := fun b hb => by
          obtain ⟨j, pk, e1, e2, e3⟩ := LiI.paired_ix atP hb
          obtain ⟨en, f1, f2⟩ := hG.pairs j b e1
          exact ⟨j, pk, en, e1, e2, by simpa using f1, f2, e3, by rw [← hH1]; exact frzAll_at hb e3 f2⟩
        have tupOk : ∀ (hh : Heap), (∀ b o, h'.get? b = some o → hh.get? b = some o) → ∀ b ∈ as, ∀ u, H1 b = some u → ∀ H2 : Hp, ObjOk X.prog X.w H2 hh b u := fun hh khh b hb u e H2 => by
          obtain ⟨j, pk, en, e1, e2, f1, f2, e3, e4⟩ := here b hb
          rw [e4] at e; cases e
          obtain ⟨qv, g1, g2, g3⟩ := pairs_at hpr j en (by simpa using f1)
          obtain ⟨pk', k1, k2, k3⟩ := kv_at rel j qv g1
          rw [e2] at k1; cases k1
          have rk1 : RelV (kV pk.1) en.key := by
            rw [k2]; exact relV_key (show keyIs qv.1 en.key = true from g2)
          exact ⟨khh b _ f2, by show 2 ≤ sizeLine; decide, [en.key, en.val], .cons rk1 (.cons (by rw [g3]; exact k3) .nil), ⟨_, khh b _ f2, rfl, _, rfl⟩⟩
        have atF : Paired (fun (t : Addr) (p : L2.Key × V) => FzT H1 t [kV p.1, p.2]) as kv := paired_mem atP fun b hb p e => by
          obtain ⟨j, pk, en, e1, e2, f1, f2, e3, e4⟩ := here b hb
          rw [e3] at e
          have e5 : [kV pk.1, pk.2] = [kV p.1, p.2] := HO.tup.inj (Option.some.inj e)
          exact ⟨_, by rw [← e5]; exact e4, rfl⟩
        have I1 : Inv X pins σ H1 { s with heap := h2, toks := tk } := I.lays (fun b o e => kb b o (hk b o e)) kp fun b u e => by
          by_cases hb : b ∈ as
          · exact .inr ⟨sNone b (Nat.le_of_lt (low b hb)), tupOk h2 kb b hb u e H1⟩
          · rw [off b hb] at e; exact .inl e
        have ea : PySem.W.EachIs (IsPr X.K H1 as) (as.map Value.ref) ps := pairs_each (fun b o _ e => kp b o e) as rk eps (fun _ h => h) atF
        have nla : ∀ d ∈ ps, noL d = true := noLs_mem ok.2
        rw [sortD_eq] at q
        refine PySem.W.list_sort_data (enc := id) (R := IsPr X.K H1 as) (n := 0) (vs := as.map Value.ref) hob ea (each_mem' ea fun u d hd hu => ?_) (by rw [List.map_id]; exact o1) (by rw [List.map_id]; exact o2) o4 (fun b hb => by have := o3 b hb; show X.A.units + 1 + 1 + b.depth < _; omega) fun out hol eo => ?_
        · obtain ⟨b, rfl, hb, df⟩ := hu
          obtain ⟨as', rd⟩ := Dn.reads I1 (.of df) (show RelV (.ref b) (.ref b) from rfl)
          refine ⟨as', rd, ?_⟩
          rw [reads_noL (nla d hd) rd]
          simp
        · obtain ⟨bs, rfl, dw⟩ := refs_of eo
          obtain ⟨c, hc2⟩ := PyProof.Rows.sortedHeap_at (out := (bs.map Value.ref).toArray) hob
          have ks : ∀ b o, h'.get? b = some o → (PyProof.Rows.sortedHeap h2 h'.objs.size (as.map Value.ref) (bs.map Value.ref).toArray).get? b = some o := fun b o e => by
            have := Heap.lt_size e
            rw [PyProof.Rows.sortedHeap_old (Nat.ne_of_lt this) (Heap.lt_size (kb b o e))]
            exact kb b o e
          have nL : H1 h'.objs.size = none := by
            rw [off _ (fun z => Nat.lt_irrefl _ (hG.there z))]
            exact I.hok.fresh (Nat.le_of_lt hlt)
          have nH : H h'.objs.size = none := I.hok.fresh (Nat.le_of_lt hlt)
          have s1 : L2.Same H1 (upd H1 h'.objs.size (.lst (bs.map V.ref))) := fun b o e => by rw [upd_ne (ne_of_none e nL)]; exact e
          refine ⟨.ref h'.objs.size, upd H1 h'.objs.size (.lst (bs.map V.ref)), I.lays (fun b o e => ks b o (hk b o e)) (fun b u e => s1 b u (kp b u e)) fun b u e => ?_, rfl, q _ _ _ (fun b u e => s1 b u (kp b u e)) nH upd_same (DfAll.mono (Same.stab s1) dw)⟩
          by_cases hb : b = h'.objs.size
          · subst hb
            rw [upd_same] at e; cases e
            refine .inr ⟨sNone _ (Nat.le_of_lt hlt), ?_, bs.map Value.ref, c, LiI.vals_refs bs, hc2⟩
            have e1 := dw.length
            rw [e1]
            show (List.mergeSort ps _).length ≤ _
            rw [List.length_mergeSort]; exact o4
          · rw [upd_ne hb] at e
            by_cases hb2 : b ∈ as
            · exact .inr ⟨sNone b (Nat.le_of_lt (low b hb2)), tupOk _ ks b hb2 u e _⟩
            · rw [off b hb2] at e; exact .inl e
      · cases ei
    · cases ei
  · cases ei
theorem rd_sortIt {K : PySem.W.Frag} {mg : Str → Option Value} {m : EM} {σ : L2.St} {H : Hp} {Q : VK} (h : rdN w K mg W (mSortItems m) σ H Q) :
    tCB (rSortIt K) (tCons (tBM0 K "dict" rItemsK (rdE w K mg W m)) tNil) σ H Q := by
  obtain ⟨φ, ρ, S, eo, so, h⟩ := h
  refine ⟨φ, ρ, S, eo, so, ?_⟩
  refine (EndR.bind h).imp fun r φ1 S1 H1 _ g1 so1 h1 v r1 => ?_
  cases r with
  | d _ => exact h1.elim
  | ref n =>
    simp only at h1
    split at h1
    · rename_i kvs es
      unfold Res.opt at h1
      split at h1
      · rename_i zs ez
        obtain ⟨a, ha, rfl⟩ := r1
        obtain ⟨kv, e1, e2⟩ := so1.cell n a _ ha es
        refine ⟨.inr (.inr (.inl ⟨rfl, .inl ⟨kv, e1⟩⟩)), a, kv, rfl, rfl, e1, fun p hp => ?_⟩
        have s1 : L2.Same H1 (upd H1 p (itemsO p a)) := fun b o e => by rw [upd_ne (ne_of_none e hp)]; exact e
        refine ⟨p, a, kv, φ1, kvs, zs, rfl, upd_same, s1 _ _ e1, RelKv.mono (List.prefix_refl _) (Same.stab s1) e2, ez, fun q ws H' s2 nq eq dq => ?_⟩
        have s3 : L2.Same H1 H' := fun b o e => s2 b o (s1 b o e)
        have nq1 : H1 q = none := by
          by_cases hq : q = p
          · rw [hq]; exact hp
          · rw [upd_ne hq] at nq; exact nq
        exact h1 φ1 H' (Grow.same s3) (so1.same s3) q ws (Grow.none g1 nq1 (so1.free nq1)) (so1.free nq1) eq dq
      · exact h1.elim
    · exact h1.elim
theorem i_sortItems {o : Expr} {m : EM} {p apos cpos pos : Pos} (h : IE X W o m) (hm : X.mg "sorted" = none) (hu : X.A.units + 128 < cLine) (hc : X.calm = true := by rfl) (hg : Gl X "sorted" := by rfl)
    (hbase : attributeBase o "items" X.env (eval o X.env) = eval o X.env := by rfl) (hline : (apos.endLine == cpos.line) = true := by rfl)
    (he : starEach [.Call (.Attribute o "items" apos) [] [] cpos] X.env = (false, eval (.Call (.Attribute o "items" apos) [] [] cpos) X.env) :: starEach [] X.env := by rfl) (hpl : (backTo pos (starEach [] X.env)).any (·.1) = false := by rfl) :
    IN X W (.Call (.Name "sorted" p) [.Call (.Attribute o "items" apos) [] [] cpos] [] pos) (mSortItems m) :=
  PE.imp (pe_callB (cr_sortIt hc hu) hg hm boot_sorted (pa_cons (pe_bm0 PySem.F.plainAttrs_dict PySem.F.slot_dict_items PySem.F.type_dict_items mt_itemsK h hbase hline) pa_nil he) (by decide) (by decide) he hpl) fun _ _ _ h => rd_sortIt h
end
end Pi

set_option Elab.async false
set_option linter.all false
set_option maxRecDepth 100000
/-! Pi14: the ends: globals, raises, the law. -/
namespace Pi
open PySem PySem.Spec PyProof.Rows L2

def onlyL (g : D → D → Option D) (a b : D) : Option (List D) := match g a b with
  | some (.list zs) => some zs
  | _ => none
section
variable {X : Cx} {W : WX}
theorem o_addL : OpR X (binaryOp .Add) (opRdL X.K (onlyL addD)) := by
  intro pins s σ H x y v u Q I rx ry h
  obtain ⟨d1, d2, ws, h1, h2, e, q⟩ := h
  unfold onlyL addD at e
  split at e
  · rename_i zs eg
    cases e
    split at eg
    · cases eg
    · split at eg <;> cases eg
    · split at eg <;> cases eg
    · split at eg
      · rename_i hz
        cases eg
        obtain ⟨a, xs, rfl, s1, t1⟩ := h1.list_at
        obtain ⟨b, ys, rfl, s2, t2⟩ := h2.list_at
        cases rx; cases ry
        refine cat_any I s1 s2 (by rw [t1.length, t2.length]; exact hz) fun p hp => ?_
        obtain ⟨sm, d⟩ := new_lst hp (t1.append t2)
        exact q p _ _ sm hp upd_same d
      · cases eg
    · cases eg
  · cases e
theorem o_mulL : OpR X (binaryOp .Mult) (opRdL X.K (onlyL mulD)) := by
  intro pins s σ H x y v u Q I rx ry h
  obtain ⟨d1, d2, ws, h1, h2, e, q⟩ := h
  unfold onlyL mulD at e
  split at e
  · rename_i zs eg
    cases e
    split at eg
    · split at eg <;> cases eg
    · split at eg <;> cases eg
    · split at eg
      · rename_i ds k hz
        cases eg
        rw [Bool.and_eq_true, Bool.and_eq_true] at hz
        have k1 := of_decide_eq_true hz.1.1
        have k2 := of_decide_eq_true hz.1.2
        have k3 := of_decide_eq_true hz.2
        cases h2.int_eq
        obtain ⟨l, xs, rfl, hL, t1⟩ := h1.list_at
        cases rx
        obtain ⟨t, rfl⟩ := ry
        obtain ⟨its, r, ⟨⟨cls, dd, data, sl⟩, n, ho, hc, _, hd⟩, hs⟩ := I.list hL
        simp only at hc hd
        subst hc hd
        have hle : its.length = xs.length := r.length.symm
        have hle2 : xs.length = ds.length := t1.length
        have hm2 : its.length * k.toNat ≤ sizeLine := by rw [hle, hle2]; exact k3
        rw [sizeLine_eq] at hm2
        have hm3 : its.toArray.size * k.toNat ≤ 2 ^ 24 := by simpa using hm2
        refine wpAny_binaryOp_repeat_ref (T := "list") (U := "int") (by decide) ⟨_, ho, rfl⟩ (fun s' => typeIs_int s' k t) noFill_list_mul F.fills_int_mul F.slot_int_rmul repeat_list F.slot_int_index.lookup
          (call_meets F.slot_int_rmul (typeIs_int s k t) F.entry_int_rmul (F.args_int_rmul_2 _ _) (lm_int_rmul_list_any k t l its.toArray n dd sl)
            ⟨ho, rfl, ⟨_, ho, rfl⟩, call_meets F.slot_list_mul ⟨_, ho, rfl⟩ F.entry_list_mul (F.args_list_mul_2 _ _) (lm_list_mul_any l its.toArray n dd sl k t (by simp [Builtin.List.listFitsIndex]; omega) (by omega) (by simp [Builtin.List.listTooLong, sizeLine]; omega)) ⟨ho, ?_⟩⟩)
        rw [listMul_foldl_if]
        obtain ⟨sm, d⟩ := new_lst (K := X.K) I.fresh (rep_flat t1 k.toNat)
        exact ⟨.ref _, _, I.lnew (t' := s.toks) (r.rep k.toNat) (by rw [len_rep, hle2]; exact k3), rfl, q _ _ _ sm I.fresh upd_same d⟩
      · cases eg
    · cases eg
  · cases e
def negD : D → Option D
  | .int i => some (.int (-i))
  | _ => none
theorem i_negD {a : Expr} {ma : EM} {pos : Pos} (ha : IE X W a ma) : IE X W (.UnaryOp .USub a pos) (mOp1 negD ma) := by
  have e : mOp1 negD ma = mOp1 (fun d => match d with | .int i => some (.int (-i)) | _ => none) ma := by
    first
      | rfl
      | (congr 1; funext d; cases d <;> rfl)
  rw [e]
  exact i_neg ha
theorem hu_of {k : Nat} {A : Around} (r : Room k A) : A.units + 128 < cLine := by have := r.un; omega
theorem i_globI {x : Str} {i : Int} {pos : Pos} (h : ∃ t, X.mg x = some (.int i t)) (hg : Gl X x := by rfl) (hd : (x == ("__debug__" : Str)) = false := by decide) : IE X W (.Name x pos) (mD (.int i)) := by
  obtain ⟨t, h⟩ := h
  exact i_glob (v := .int i) h ⟨t, rfl⟩ (fun _ => .int i) hg hd
/-- an exception class of one's own over ValueError -/
def ExF (K : PySem.W.Frag) (mg : Str → Option Value) (x : String) : Prop := ∃ C, mg (Str.ofString x) = some (.ref C) ∧ PySem.W.excIn K C He.veBase "ValueError.__new__" = true ∧ PySem.W.keepIn K (.ref C) = true ∧ PySem.W.subIn K (.ref C) (.type "BaseException") = some true ∧ PySem.W.typeIn K (.ref C) = some (.type "type")
theorem is_raiseX {x : String} {m' : Str} {j : Nat} {p p2 pos pos2 : Pos} (f : ExF X.K X.mg x) (tk : Takes X W) (hg : Gl X (Str.ofString x) := by rfl) (hc : X.calm = true := by rfl) (hdb : (Str.ofString x == ("__debug__" : Str)) = false := by decide) :
    IS X W (.Raise (some (.Call (.Name (Str.ofString x) p) [.Constant (.str m') j p2] [] pos)) none pos2) (mRaise x) := by
  obtain ⟨C, h1, h2, h3, h4, h5⟩ := f
  exact is_raise tk PySem.F.excBase_ValueError h2 h1 h3 (raises_own h4 h5) hg hc hdb
theorem iss_no {b : List Stmt} : ISs X W b mNoS := ⟨fun pins s σ H D I h => by obtain ⟨φ, ρ, S, eo, so, h⟩ := h; exact h.elim⟩
end
theorem cx_no {P : Program} {w : World} {H : Hp} {s : Shared} {e : Value} {s' : Shared} (h : L2.CX P w [] H s (fun _ _ _ => False) e s') : False := by
  obtain ⟨a, B, H', cls, d, _, _, _, _, _, _, _, q⟩ := h
  exact q
theorem walk_ofW {l : PySem.W.OpenLaw} {n k : Nat} {q : Program} {loose : List Str} {XP : (Str → Option Value) → Heap → Prop} {YP : World → Heap → Prop} {d : DefRec} {x : Str} (hn : l.most = some n) (hn2 : n ≤ sizeLine) (hdf : d.params.defaults = []) (hr : Room k callerA)
    (F : ∀ (w : World) (mg : Str → Option Value) (fa : Addr) (h : Heap), YP w h → h.Ns mainGlobals mg → mg d.name = some (.ref fa) → ∃ (K : PySem.W.Frag) (fd : FuncData) (sp : Sp), K.In h ∧ (∀ (s : Shared) (u : Value), BindsTo s fd ⟨[u], []⟩ [(x, u)]) ∧
      (∀ (H : Hp) (a : Addr) (ns : List Int), ns.length ≤ n → Only H → SqL K H a (ns.map V.int) → sp [.ref a] H (fun v _ => v = .bl true) fun _ _ _ => False) ∧ ∀ base : Heap, K.In base → base.Ns mainGlobals mg → FnOk l.prog w K mg base (L2.CX l.prog w) k fa fd [x] sp) :
    PySem.W.WalkO q loose XP YP l.row.toRowW d [] (fun f vs => PySem.call f vs) := by
  refine (Att.attach_call hn hdf fun w s₀ s₁ mg mb fa o pm cd doc a vs ns G Y ho hd hcd hmg hobj hints hlen hg => ?_)
  obtain ⟨K, fd, sp, h1, h2, h3, h4⟩ := F w mg fa _ Y G.T.g hmg
  exact law_call h1 G.T.g G.T.b G.T.builtins G.T.nolimit hg hobj hints (Nat.le_trans hlen hn2) hr h4 h2 (fun H hO hS => h3 H a ns hlen hO hS) fun _ _ _ => cx_no
/-- the law's promise from the mirror's answer -/
theorem sp_law {K : PySem.W.Frag} {mg : Str → Option Value} {F : Fn} {H : Hp} {a : Addr} {ns : List Int} (hO : Only H) (hS : SqL K H a (ns.map V.int)) {S : Store} (h : F [.d (.list (ns.map .int))] [] = .ok (.d (.bool true)) S) : spF w K mg 1 F [.ref a] H (fun v _ => v = .bl true) fun _ _ _ => False := by
  have fz : FzL K H a (ns.map V.int) := by
    rcases hS with (h | h) | h
    · rcases hO a with q | ⟨o, xs, q⟩
      · rw [h] at q; cases q
      · rw [h] at q; cases q
    · exact .inl h
    · exact .inr h
  refine ⟨[], [.d (.list (ns.map .int))], [], rfl, StOk.nil, .cons (.lst fz (ints_dfall ns)) .nil, ?_⟩
  rw [h]
  exact fun φ' v H' g so r => by cases r; rfl
end Pi

set_option Elab.async false
set_option linter.all false
set_option maxRecDepth 100000
/-! PiObj: instances of own classes: fields, methods, new ones; several targets at once. -/
namespace Pi
open PySem PySem.Spec PyProof.Rows L2

abbrev clsA (K : PySem.W.Frag) (c : String) : Addr := He.ga K (Str.ofString c)
def fldR (S : Store) (c : String) (f : Str) : R → Option R
  | .ref n => match S[n]? with
    | some (.obj c' fs) => if c' = c then fs.lookup f else none
    | _ => none
  | .d _ => none
/-- o.f -/
def mFld (c : String) (f : Str) (o : EM) : EM := fun ρ S => (o ρ S).bind fun r S1 => match fldR S1 c f r with
  | some q => .ok q S1
  | none => .no
def putFs (f : Str) (r : R) : List (Str × R) → List (Str × R)
  | [] => [(f, r)]
  | (g, x) :: t => if g = f then (g, r) :: t else (g, x) :: putFs f r t
def setF (S : Store) (c : String) (f : Str) (o v : R) : Option Store := match o with
  | .ref n => match S[n]? with
    | some (.obj c' fs) => if c' = c ∧ fs.length < 1000 then some (S.set n (.obj c' (putFs f v fs))) else none
    | _ => none
  | .d _ => none
/-- o.f = v -/
def mSetF (c : String) (f : Str) (o v : EM) : SM := fun ρ S => (v ρ S).out ρ fun rv S1 => (o ρ S1).out ρ fun ro S2 => match setF S2 c f ro rv with
  | some S3 => .nx ρ S3
  | none => .no
/-- o.f as a target -/
def gFld (c : String) (f : Str) (o : EM) : GM := fun rv ρ S => match o ρ S with
  | .ok ro S1 => match setF S1 c f ro rv with
    | some S2 => some (ρ, S2)
    | none => none
  | _ => none
def gAllR : List GM → List R → Env → Store → Option (Env × Store)
  | [], [], ρ, S => some (ρ, S)
  | g :: gs, r :: rs, ρ, S => match g r ρ S with
    | some (ρ1, S1) => gAllR gs rs ρ1 S1
    | none => none
  | _, _, _, _ => none
/-- (t, ..) = (e, ..) -/
def mAsgR (gs : List GM) (a : AM) : SM := fun ρ S => (a ρ S).out ρ fun rs S1 => if rs.length ≤ sizeLine then (match gAllR gs rs ρ S1 with
  | some (ρ2, S2) => .nx ρ2 S2
  | none => .no) else .no
def clsR (S : Store) (c : String) (m : Str) : R → Bool
  | .ref n => match S[n]? with
    | some (.obj c' fs) => decide (c' = c) && (fs.lookup m).isNone
    | _ => false
  | .d _ => false
/-- o.m(..) -/
def mMeth (c : String) (m : Str) (F : Fn) (o : EM) (a : AM) : EM := fun ρ S => (o ρ S).bind fun r S1 => if clsR S1 c m r = true then (a ρ S1).bind fun rs S2 => F (r :: rs) S2 else .no
/-- C(..) -/
def mMake (c : String) (F : Fn) (a : AM) : EM := fun ρ S => (a ρ S).bind fun rs S1 => (F (.ref S1.length :: rs) (S1 ++ [.obj c []])).bind fun q S2 => match q with
  | .d .none => .ok (.ref S1.length) S2
  | _ => .no

section
variable {K : PySem.W.Frag} {φ : List Addr} {H : Hp} {S : Store}
theorem fs_get {fv : List (Str × V)} {fs : List (Str × R)} (h : RelFs K φ H fv fs) (f : Str) : match fs.lookup f with
    | some r => ∃ v, fv.lookup f = some v ∧ RelR K φ H v r
    | none => fv.lookup f = none := by
  induction h with
  | nil => rfl
  | @cons p t p' t' h _ ih =>
    obtain ⟨g, v⟩ := p
    obtain ⟨g', r⟩ := t
    obtain ⟨rfl, q⟩ := h
    rw [List.lookup_cons, List.lookup_cons]
    cases e : f == g with
    | true => exact ⟨v, rfl, q⟩
    | false => exact ih
theorem fs_put {v : V} {r : R} (q : RelR K φ H v r) (f : Str) : ∀ {fv : List (Str × V)} {fs : List (Str × R)}, RelFs K φ H fv fs → RelFs K φ H (putF f v fv) (putFs f r fs)
  | _, _, .nil => .cons ⟨rfl, q⟩ .nil
  | (g, x) :: t, (g', y) :: t', .cons h ht => by
    obtain ⟨rfl, h2⟩ := h
    have ih := fs_put q f ht
    by_cases e : g = f
    · have e1 : putF f v ((g, x) :: t) = (g, v) :: t := if_pos e
      have e2 : putFs f r ((g, y) :: t') = (g, r) :: t' := if_pos e
      rw [e1, e2]; exact .cons ⟨rfl, q⟩ ht
    · have e1 : putF f v ((g, x) :: t) = (g, x) :: putF f v t := if_neg e
      have e2 : putFs f r ((g, y) :: t') = (g, y) :: putFs f r t' := if_neg e
      rw [e1, e2]; exact .cons ⟨rfl, h2⟩ ih
theorem fs_len {fv : List (Str × V)} {fs : List (Str × R)} (h : RelFs K φ H fv fs) : fv.length = fs.length := by
  induction h with
  | nil => rfl
  | cons _ _ ih => rw [List.length_cons, List.length_cons, ih]
theorem obj_at {w : World} {c c' : String} {n : Nat} {fs : List (Str × R)} (so : StOk w K φ H S) {a : Addr} (ha : φ[n]? = some a) (e : S[n]? = some (.obj c' fs)) (hc : c' = c) : ∃ dx fv, H a = some (.ins (clsA K c) dx fv) ∧ RelFs K φ H fv fs := by
  subst hc
  exact so.cell n a _ ha e
theorem set_fld {w : World} {c : String} {f : Str} {ro rv : R} {x v : V} {S3 : Store} (so : StOk w K φ H S) (qo : RelR K φ H x ro) (qv : RelR K φ H v rv) (e : setF S c f ro rv = some S3) :
    ∃ a dx fv, x = .ref a ∧ H a = some (.ins (clsA K c) dx fv) ∧ fv.length < 1000 ∧ Grow φ H φ (upd H a (.ins (clsA K c) dx (putF f v fv))) ∧ StOk w K φ (upd H a (.ins (clsA K c) dx (putF f v fv))) S3 := by
  unfold setF at e
  split at e
  · rename_i n
    obtain ⟨a, ha, rfl⟩ := qo
    split at e
    · rename_i c' fs es
      split at e
      · rename_i hc
        obtain ⟨rfl, hl⟩ := hc
        cases e
        obtain ⟨dx, fv, q1, q2⟩ := obj_at so ha es rfl
        have eh := cell_upd (c := .obj c' (putFs f rv fs)) (u := .ins (clsA K c') dx (putF f v fv)) so ha q1 rfl ⟨dx, _, upd_same, fs_put (RelR.mono (List.prefix_refl _) (upd_stab q1 rfl) qv) f (RelFs.mono (List.prefix_refl _) (upd_stab q1 rfl) q2)⟩
        exact ⟨a, dx, fv, rfl, q1, by rw [fs_len q2]; exact hl, eh.1, eh.2⟩
      · cases e
    · cases e
  · cases e
end
section
variable {X : Cx} {W : WX} {o e : Expr} {mo mv : EM} {am : AM} {f m : Str} {c : String} {pos pos' apos : Pos} {es : List Expr}
theorem i_fld (cl : Cls X.K (clsA X.K c)) (na : NoAttr X.K (clsA X.K c) f) (ho : IE X W o mo) (hb : attributeBase o f X.env (eval o X.env) = eval o X.env := by rfl) : IE X W (.Attribute o f pos) (mFld c f mo) := PE.imp (pe_fld ho hb) fun σ H Q h => by
  obtain ⟨φ, ρ, S, eo, so, h⟩ := h
  refine ⟨φ, ρ, S, eo, so, (EndR.bind h).imp fun r φ1 S1 H1 _ g1 so1 h1 v r1 => ?_⟩
  split at h1
  · rename_i q eq
    unfold fldR at eq
    split at eq
    · rename_i n
      split at eq
      · rename_i c' fs es
        split at eq
        · rename_i hc
          obtain ⟨a, ha, rfl⟩ := r1
          obtain ⟨dx, fv, q1, q2⟩ := obj_at so1 ha es hc
          have := fs_get q2 f
          rw [eq] at this
          obtain ⟨v, l, rv⟩ := this
          exact ⟨a, _, dx, fv, v, rfl, q1, cl, na, l, h1.now so1 v rv⟩
        · cases eq
      · cases eq
    · cases eq
  · exact h1.elim
theorem is_setF (cl : Cls X.K (clsA X.K c)) (na : NoAttr X.K (clsA X.K c) f) (hv : IE X W e mv) (ho : IE X W o mo) (hs : swapsWith e (some (.Attribute o f pos')) pos.line X.env = pure false := by rfl) :
    IS X W (.Assign [.Attribute o f pos'] e pos) (mSetF c f mo mv) := PS.imp (ps_fld ho hv hs) fun D σ H h => by
  obtain ⟨φ, ρ, S, eo, so, h⟩ := h
  refine ⟨φ, ρ, S, eo, so, (EndS.out eo h).imp fun rv φ1 S1 H1 _ g1 so1 h1 v q1 => ?_⟩
  refine ⟨φ1, ρ, S1, eo.grow g1, so1, (EndS.out (eo.grow g1) h1).imp fun ro φ2 S2 H2 _ g2 so2 h2 ov q2 => ?_⟩
  split at h2
  · rename_i S3 e3
    obtain ⟨a, dx, fv, rfl, ea, l, gg, so3⟩ := set_fld so2 q2 (q1.grow g2) e3
    exact ⟨a, _, dx, fv, rfl, ea, cl, na, l, EndS.now so3 (((eo.grow g1).grow g2).grow gg) (EndS.later gg h2)⟩
  · exact h2.elim
/-- o.f as a target, at the machine -/
def gFldT (K : PySem.W.Frag) (ta : TE) (f : Str) : TG := fun v σ H Q => ta σ H fun x H2 => ∃ a C dx fs, x = .ref a ∧ H2 a = some (.ins C dx fs) ∧ Cls K C ∧ NoAttr K C f ∧ fs.length < 1000 ∧ Q σ (upd H2 a (.ins C dx (putF f v fs)))
theorem pg_fld {ta : TE} (ha : PE X o ta) : PG X (.Attribute o f pos) (gFldT X.K ta f) := by
  refine ⟨fun pins s σ H v u Q I r h => ?_⟩
  have e0 : assign (.Attribute o f pos) X.env u = (do
      let ov ← holding [u] (eval o X.env)
      standAt pos.atName
      holding [u, ov] (setAttr ov f u)
      release [u, ov] []) := rfl
  rw [e0]
  refine wpAny_bind (wpAny_holding (thn (ha.run pins s σ H _ I h) fun ov s1 ⟨x, H1, I1, r1, q1⟩ => ?_))
  obtain ⟨a, C, dx, fs, ex, ea, cl, na, l, q⟩ := q1
  subst ex
  obtain rfl : ov = Value.ref a := r1
  exact wpAny_bind (wpAny_standAt (wpAny_bind (wpAny_holding (setattr_ok I1 ea cl na l r fun s3 I3 => wpAny_release ⟨σ, _, I3, q⟩))))
theorem ig_fld (cl : Cls X.K (clsA X.K c)) (na : NoAttr X.K (clsA X.K c) f) (ho : IE X W0 o mo) : IG X (.Attribute o f pos) (gFld c f mo) [] := PG.imp (pg_fld ho) fun v σ H Q h => by
  obtain ⟨φ, ρ, S, r, eo, so, q, ρ', S', e, k⟩ := h
  unfold gFld at e
  split at e
  · rename_i ro S1 er
    split at e
    · rename_i S2 e2
      cases e
      refine ⟨φ, ρ, S, eo, so, EndR.ofOk er fun φ1 H1 g1 so1 x qx => ?_⟩
      obtain ⟨a, dx, fv, rfl, ea, l, gg, so3⟩ := set_fld so1 qx (q.grow g1) e2
      exact ⟨a, _, dx, fv, rfl, ea, cl, na, l, k φ1 σ _ (g1.trans gg) so3 ((eo.grow g1).grow gg) ⟨rfl, fun _ _ => rfl⟩⟩
    · cases e
  · cases e
def rdGsR (w : World) (K : PySem.W.Frag) (gs : List GM) : TGs := fun us σ H Q => ∃ φ ρ S rs, EnvOk K φ H σ ρ ∧ StOk w K φ H S ∧ RelRs K φ H us rs ∧ ∃ ρ' S', gAllR gs rs ρ S = some (ρ', S') ∧
  ∀ φ' σ' H', Grow φ H φ' H' → StOk w K φ' H' S' → EnvOk K φ' H' σ' ρ' → Q σ' H'
abbrev IGsR (X : Cx) (ts : List Expr) (gs : List GM) : Prop := PGs X ts (rdGsR X.w X.K gs)
theorem igr_nil : IGsR X [] [] := PGs.imp pgs_nil fun v σ H Q h => by
  obtain ⟨φ, ρ, S, ds, eo, so, q, ρ', S', e, k⟩ := h
  cases ds with
  | nil => cases q; cases e; exact ⟨rfl, k φ _ H (Grow.refl _ _) so eo⟩
  | cons d ds => cases e
theorem igr_cons {t : Expr} {ts : List Expr} {g : GM} {gs : List GM} {vs : List Nat} (h1 : IG X t g vs) (h2 : IGsR X ts gs)
    (hs : (assignEach (t :: ts) X.env).map (·.2) = assign t X.env :: (assignEach ts X.env).map (·.2) := by rfl) : IGsR X (t :: ts) (g :: gs) := PGs.imp (pgs_cons h1 h2 hs) fun us σ H Q h => by
  obtain ⟨φ, ρ, S, ds, eo, so, q, ρ', S', e, k⟩ := h
  cases ds with
  | nil => cases e
  | cons d ds =>
    cases q with
    | cons q1 q2 =>
      unfold gAllR at e
      cases e1 : g d ρ S with
      | none => rw [e1] at e; cases e
      | some z =>
        obtain ⟨ρ1, S1⟩ := z
        rw [e1] at e
        refine ⟨_, _, rfl, φ, ρ, S, d, eo, so, q1, ρ1, S1, e1, fun φ1 σ1 H1 g1 so1 eo1 os1 => ?_⟩
        exact ⟨φ1, ρ1, S1, ds, eo1, so1, RelRs.grow g1 q2, ρ', S', e, fun φ2 σ2 H2 g2 so2 eo2 => k φ2 σ2 H2 (g1.trans g2) so2 eo2⟩
theorem gAllR_len : ∀ {gs : List GM} {rs : List R} {ρ : Env} {S : Store} {z}, gAllR gs rs ρ S = some z → rs.length = gs.length
  | [], [], _, _, _, _ => rfl
  | [], _ :: _, _, _, _, e => by cases e
  | _ :: _, [], _, _, _, e => by cases e
  | g :: gs, r :: rs, ρ, S, z, e => by
    unfold gAllR at e
    split at e
    · rw [List.length_cons, List.length_cons, gAllR_len e]
    · cases e
theorem is_asgR {ts es : List Expr} {k1 k2 : Nat} {p1 p2 : Pos} {gs : List GM} (hg : IGsR X ts gs) (ha : IA X W es am) (hs : swapsWithSole [.Tuple ts k1 p1] (.Tuple es k2 p2) pos.line X.env = pure false := by rfl) (hw : swappedStores [.Tuple ts k1 p1] (.Tuple es k2 p2) X.env = pure none := by rfl)
    (h1 : (assignEach [.Tuple ts k1 p1] X.env).map (·.2) = [assign (.Tuple ts k1 p1) X.env] := by rfl) (hc : X.calm = true := by rfl) (hn : (assignEach ts X.env).length = gs.length := by rfl) (hst : (assignEach ts X.env).findIdx? (·.1) = none := by rfl) :
    IS X W (.Assign [.Tuple ts k1 p1] (.Tuple es k2 p2) pos) (mAsgR gs am) := PS.imp (ps_asg (pe_tup ha) (pg_tup hc hg hn hst) hs hw h1) fun D σ H h => by
  obtain ⟨φ, ρ, S, eo, so, h⟩ := h
  refine ⟨φ, ρ, S, eo, so, (EndS.out eo h).imp fun rs φ1 S1 H1 _ g1 so1 h1 vs r1 => ?_⟩
  split at h1
  · rename_i hz
    refine ⟨by rw [RelRs.length r1]; exact hz, fun p hp => ?_⟩
    have s : L2.Same H1 (upd H1 p (.tup vs)) := fun b o e => by rw [upd_ne (ne_of_none e hp)]; exact e
    have gs1 : Grow φ1 H1 φ1 (upd H1 p (.tup vs)) := Grow.same s
    split at h1
    · rename_i ρ2 S2 e2
      exact ⟨p, vs, rfl, .inl (.inl upd_same), by rw [RelRs.length r1]; exact gAllR_len e2, φ1, ρ, S1, rs, (eo.grow g1).grow gs1, so1.same s, RelRs.grow gs1 r1, ρ2, S2, e2, fun φ' σ' H' g' so' eo' => EndS.now so' eo' (EndS.later (gs1.trans g') h1)⟩
    · exact h1.elim
  · exact h1.elim
/-! methods -/
def tMethE (C : Addr) (m : Str) (sp : Sp) (E : L2.St → XK) (ta : TE) (t : TA) : TE := fun σ H Q => ta σ H fun x H1 => ∃ a dx fs, x = .ref a ∧ H1 a = some (.ins C dx fs) ∧ fs.lookup m = none ∧
  t σ H1 fun vs H2 => sp (x :: vs) H2 Q (E σ)
def tMakeE (C : Addr) (sp : Sp) (E : L2.St → XK) (t : TA) : TE := fun σ H Q => t σ H fun vs H1 => ∀ x dx, H1 x = none → H1 dx = none → dx ≠ x →
  sp (.ref x :: vs) (upd (upd H1 dx (.own x)) x (.ins C dx [])) (fun v H2 => v = .non ∧ Q (.ref x) H2) (E σ)
theorem rd_meth {w : World} {K : PySem.W.Frag} {mg : Str → Option Value} {n : Nat} {F : Fn} {σ : L2.St} {H : Hp} {Q : VK} (hn : ∀ ρ S rs S1, am ρ S = .ok rs S1 → rs.length = n) (h : rdE w K mg W (mMeth c m F mo am) σ H Q) :
    tMethE (clsA K c) m (spF w K mg (n + 1) F) (WE W) (rdE w K mg W mo) (rdA w K mg W am) σ H Q := by
  obtain ⟨φ, ρ, S, eo, so, h⟩ := h
  refine ⟨φ, ρ, S, eo, so, (EndR.bind h).imp fun r φ1 S1 H1 _ g1 so1 h1 x r1 => ?_⟩
  by_cases hc : clsR S1 c m r = true
  · rw [if_pos hc] at h1
    unfold clsR at hc
    cases r with
    | d y => cases hc
    | ref i =>
      simp only at hc
      split at hc
      · rename_i c' fs es
        rw [Bool.and_eq_true] at hc
        obtain ⟨a, ha, rfl⟩ := r1
        obtain ⟨dx, fv, q1, q2⟩ := obj_at so1 ha es (of_decide_eq_true hc.1)
        have hl := fs_get q2 m
        have hl2 : fs.lookup m = none := by
          cases e : fs.lookup m with
          | none => rfl
          | some z => rw [e] at hc; cases hc.2
        rw [hl2] at hl
        refine ⟨a, dx, fv, rfl, q1, hl, φ1, ρ, S1, eo.grow g1, so1, (EndR.bind h1).imp fun rs φ2 S2 H2 er g2 so2 h2 vs r2 => ?_⟩
        have hlen : vs.length = n := by rw [RelRs.length r2]; exact hn _ _ _ _ er
        refine ⟨φ2, .ref i :: rs, S2, by simp [hlen], so2, .cons ⟨a, g2.at_ ha, rfl⟩ r2, ?_⟩
        cases q : F (.ref i :: rs) S2 with
        | ok r S3 => rw [q] at h2; exact fun φ' v H' g so' r' => h2 φ' H' g so' v r'
        | ex y S3 => rw [q] at h2; exact fun φ' H' cls dA g so' q' => h2 φ' H' cls dA g so' q'
        | no => rw [q] at h2; exact h2
      · cases hc
  · rw [if_neg hc] at h1; exact h1.elim
end
/-! the machine's side, where what is raised is wished for at the slots -/
section
variable {X : Cx} {CX : CXT} {C g : Addr} {gd : FuncData} {ps : List Str} {sp : Sp} {Ex : L2.St → XK} {k : Nat} {m : Str} {o e : Expr} {es : List Expr} {to : TE} {tas : TA} {ap cp : Pos}
theorem methP {pl : Sem Bool} (ho : PE X o to) (cl : Cls X.K C) (me : Meth X.K C m g) (ok : FnOk X.prog X.w X.K X.mg X.base CX k g gd ps sp) (hr : Room k X.A) (hb : Binds X.K gd ps []) (hx : ∀ σ, PassesAt CX X σ (Ex σ)) (has : PA X (e :: es) tas)
    (hst : starEach (e :: es) X.env = (false, eval e X.env) :: starEach es X.env) (hpl : (backTo cp (starEach es X.env)).any (·.1) = false)
    (ht : eval (.Call (.Attribute o m ap) (e :: es) [] cp) X.env = (do
        let ov ← eval o X.env
        standAt ap.atName
        let (f, first) ← holding [ov] (getMethod ov m pl)
        callWith cp f first (backTo cp (starEach (e :: es) X.env)) (backToKw cp (keywordEach [] X.env)))) :
    PE X (.Call (.Attribute o m ap) (e :: es) [] cp) (tMethE C m sp Ex to tas) := by
  constructor
  intro pins s σ H Q I h
  refine PySem.W.methodCall_KW (pl := pl) (thn (ho.run pins s σ H _ I h) ?_) ht
  rintro u s1 ⟨x, H1, I1, rx, a, dx, fs, ex, ea, l, q⟩
  subst ex
  obtain rfl : u = Value.ref a := rx
  refine getmeth_ok I1 ea cl me l (PySem.W.callWith_K (first := [.ref a]) (h₀ := X.base) I1.ok.mod.kin me.kp (thn (has.run cp pins s1 σ H1 _ I1 q) ?_) hst hpl)
  rintro us s2 ⟨vs, H2, I2, r, q2⟩
  exact ⟨I2.kIn, run_fnS (us := .ref a :: us) (vs := .ref a :: vs) ok hr hb (hx σ) I2 (.cons rfl r) q2⟩
theorem methP0 {pl : Sem Bool} (ho : PE X o to) (cl : Cls X.K C) (me : Meth X.K C m g) (ok : FnOk X.prog X.w X.K X.mg X.base CX k g gd ps sp) (hr : Room k X.A) (hb : Binds X.K gd ps []) (hx : ∀ σ, PassesAt CX X σ (Ex σ))
    (ht : eval (.Call (.Attribute o m ap) [] [] cp) X.env = (do
        let ov ← eval o X.env
        standAt ap.atName
        let (f, first) ← holding [ov] (getMethod ov m pl)
        callWith cp f first (backTo cp (starEach [] X.env)) (backToKw cp (keywordEach [] X.env)))) :
    PE X (.Call (.Attribute o m ap) [] [] cp) (tMethE C m sp Ex to tNil) := by
  constructor
  intro pins s σ H Q I h
  refine PySem.W.methodCall_KW (pl := pl) (thn (ho.run pins s σ H _ I h) ?_) ht
  rintro u s1 ⟨x, H1, I1, rx, a, dx, fs, ex, ea, l, q⟩
  subst ex
  obtain rfl : u = Value.ref a := rx
  exact getmeth_ok I1 ea cl me l (PySem.W.callWith_K0 (first := [.ref a]) I1.kIn me.kp (run_fnS (us := [.ref a]) (vs := [.ref a]) ok hr hb (hx σ) I1 (.cons rfl .nil) q))
theorem runMk {pins : List (Addr × Obj)} {σ : L2.St} {H : Hp} {s : Shared} {Q : VK} {us : List Value} {vs : List V} (M : Mk X.K C g) (ok : FnOk X.prog X.w X.K X.mg X.base CX k g gd ps sp) (hr : Room (k + 1) X.A) (hb : Binds X.K gd ps []) (hx : PassesAt CX X σ (Ex σ)) (I : Inv X pins σ H s) (r : Vals vs us)
    (h : ∀ x dx, H x = none → H dx = none → dx ≠ x → sp (.ref x :: vs) (upd (upd H dx (.own x)) x (.ins C dx [])) (fun v H2 => v = .non ∧ Q (.ref x) H2) (Ex σ)) : wpAny (model X.prog X.w) X.A (call (.ref C) us) (EP X pins σ Q) X.xe s := by
  have q := h (s.heap.objs.size + 1) s.heap.objs.size (I.hok.fresh (Nat.le_succ _)) (I.hok.fresh (Nat.le_refl _)) (Nat.ne_of_lt (Nat.lt_succ_self _))
  have J := Inv.made (C := C) I
  have r1 : Vals (V.ref (s.heap.objs.size + 1) :: vs) (Value.ref (s.heap.objs.size + 1) :: us) := .cons rfl r
  have hl : (Value.ref (s.heap.objs.size + 1) :: us ++ []).length = ps.length := by
    rw [List.append_nil]
    exact r1.length.symm.trans (ok.len _ _ _ _ q)
  have hbi := hb _ (Value.ref (s.heap.objs.size + 1) :: us) J.kIn hl
  rw [List.append_nil] at hbi
  refine wpAny_call (make_map (f := g) I.kIn M.makes M.init (beq_iff_eq.mp M.fn) (codeAny_mono (ok.run _ X.stack _ _ ⟨Value.ref (s.heap.objs.size + 1) :: us, []⟩ (Value.ref (s.heap.objs.size + 1) :: us) _ _ (Ex σ) (hr.make C us []) (J.env0.make C us []) hbi r1 q) ?_))
  intro r2 s2 hq
  cases r2 with
  | error e => exact hx pins _ _ e s2 J hq
  | ok fl =>
    cases fl with
    | ret u =>
      obtain ⟨v, H3, I3, rv, ev, q3⟩ := J.after hq
      subst ev
      exact ⟨rv, ⟨V.ref (s.heap.objs.size + 1), H3, I3, rfl, q3⟩⟩
    | next => exact hq.elim
    | brk => exact hq.elim
    | cont => exact hq.elim
theorem makeP {x : Str} {np : Pos} (M : Mk X.K C g) (ok : FnOk X.prog X.w X.K X.mg X.base CX k g gd ps sp) (hr : Room (k + 1) X.A) (hg : Gl X x) (hm : X.mg x = some (.ref C)) (hb : Binds X.K gd ps []) (hx : ∀ σ, PassesAt CX X σ (Ex σ)) (has : PA X (e :: es) tas) (hdb : (x == ("__debug__" : Str)) = false)
    (he : starEach (e :: es) X.env = (false, eval e X.env) :: starEach es X.env) (hpl : (backTo cp (starEach es X.env)).any (·.1) = false) : PE X (.Call (.Name x np) (e :: es) [] cp) (tMakeE C sp Ex tas) := by
  constructor
  intro pins s σ H Q I h
  refine wpAny_Call_Name_kw (ld_glob I hg hm (PySem.W.callWith_K (h₀ := X.base) I.ok.mod.kin M.kp (thn (has.run cp pins s σ H _ I h) ?_) he hpl) hdb)
  rintro us s1 ⟨vs, H1, I1, r, q⟩
  exact ⟨I1.kIn, runMk M ok hr hb (hx σ) I1 r q⟩
theorem makeP0 {x : Str} {np : Pos} (M : Mk X.K C g) (ok : FnOk X.prog X.w X.K X.mg X.base CX k g gd ps sp) (hr : Room (k + 1) X.A) (hg : Gl X x) (hm : X.mg x = some (.ref C)) (hb : Binds X.K gd ps []) (hx : ∀ σ, PassesAt CX X σ (Ex σ)) (hdb : (x == ("__debug__" : Str)) = false) :
    PE X (.Call (.Name x np) [] [] cp) (tMakeE C sp Ex tNil) := by
  constructor
  intro pins s σ H Q I h
  exact wpAny_Call_Name_kw (ld_glob I hg hm (PySem.W.callWith_K0 I.kIn M.kp (runMk (us := []) M ok hr hb (hx σ) I .nil h)) hdb)
end
/-- a method -/
structure Mx (P : Program) (w : World) (K : PySem.W.Frag) (mg : Str → Option Value) (base : Heap) (c : String) (m : Str) (n k : Nat) (F : Fn) : Prop where
  ex : ∃ f fd ps, Cls K (clsA K c) ∧ Meth K (clsA K c) m f ∧ Binds K fd ps [] ∧ ps.length = n ∧ FnOk P w K mg base (L2.CX P w) k f fd ps (spF w K mg n F)
theorem Mx.mono {P : Program} {w : World} {K : PySem.W.Frag} {mg : Str → Option Value} {base : Heap} {c : String} {x : Str} {n j k : Nat} {F : Fn} (h : Mx P w K mg base c x n j F) (hk : j ≤ k) : Mx P w K mg base c x n k F := by
  obtain ⟨f, fd, ps, h1, h2, h3, h4, h5⟩ := h.ex
  exact ⟨f, fd, ps, h1, h2, h3, h4, h5.mono hk⟩
/-- a class that is made -/
structure Cx' (P : Program) (w : World) (K : PySem.W.Frag) (mg : Str → Option Value) (base : Heap) (c : String) (n k : Nat) (F : Fn) : Prop where
  ex : ∃ f fd ps, mg (Str.ofString c) = some (.ref (clsA K c)) ∧ Mk K (clsA K c) f ∧ Binds K fd ps [] ∧ ps.length = n ∧ FnOk P w K mg base (L2.CX P w) k f fd ps (spF w K mg n F)
theorem Cx'.mono {P : Program} {w : World} {K : PySem.W.Frag} {mg : Str → Option Value} {base : Heap} {c : String} {n j k : Nat} {F : Fn} (h : Cx' P w K mg base c n j F) (hk : j ≤ k) : Cx' P w K mg base c n k F := by
  obtain ⟨f, fd, ps, h1, h2, h3, h4, h5⟩ := h.ex
  exact ⟨f, fd, ps, h1, h2, h3, h4, h5.mono hk⟩
section
variable {X : Cx} {W : WX} {o e : Expr} {mo : EM} {am : AM} {m : Str} {c : String} {p pos apos : Pos} {es : List Expr} {n k : Nat} {F : Fn}
theorem i_meth {pl : Sem Bool} (h : Mx X.prog X.w X.K X.mg X.base c m (n + 1) k F) (hr : Room k X.A) (tk : Takes X W) (ho : IE X W o mo) (ha : IA X W (e :: es) am) (hn : ∀ ρ S rs S1, am ρ S = .ok rs S1 → rs.length = n)
    (hst : starEach (e :: es) X.env = (false, eval e X.env) :: starEach es X.env := by rfl) (hpl : (backTo pos (starEach es X.env)).any (·.1) = false := by rfl)
    (ht : eval (.Call (.Attribute o m apos) (e :: es) [] pos) X.env = (do
      let ov ← eval o X.env
      standAt apos.atName
      let (f, first) ← holding [ov] (getMethod ov m pl)
      callWith pos f first (backTo pos (starEach (e :: es) X.env)) (backToKw pos (keywordEach [] X.env))) := by rfl) : IE X W (.Call (.Attribute o m apos) (e :: es) [] pos) (mMeth c m F mo am) := by
  obtain ⟨f, fd, ps, h1, h2, h3, h4, h5⟩ := h.ex
  exact ⟨fun pins s σ H Q I q => (methP (pl := pl) ho h1 h2 h5 hr h3 (fun σ => passAt tk σ) ha hst hpl ht).run pins s σ H Q I (rd_meth hn q)⟩
theorem i_meth0 {pl : Sem Bool} (h : Mx X.prog X.w X.K X.mg X.base c m 1 k F) (hr : Room k X.A) (tk : Takes X W) (ho : IE X W o mo)
    (ht : eval (.Call (.Attribute o m apos) [] [] pos) X.env = (do
      let ov ← eval o X.env
      standAt apos.atName
      let (f, first) ← holding [ov] (getMethod ov m pl)
      callWith pos f first (backTo pos (starEach [] X.env)) (backToKw pos (keywordEach [] X.env))) := by rfl) : IE X W (.Call (.Attribute o m apos) [] [] pos) (mMeth c m F mo mNil) := by
  obtain ⟨f, fd, ps, h1, h2, h3, h4, h5⟩ := h.ex
  refine ⟨fun pins s σ H Q I q => (methP0 (pl := pl) ho h1 h2 h5 hr h3 (fun σ => passAt tk σ) ht).run pins s σ H Q I ?_⟩
  obtain ⟨φ, ρ, S, eo, so, h⟩ := rd_meth (n := 0) len_nil q
  refine ⟨φ, ρ, S, eo, so, h.imp fun r φ1 S1 H1 _ g1 so1 h1 x r1 => ?_⟩
  obtain ⟨a, dx, fs, q1, q2, q3, q4⟩ := h1 x r1
  exact ⟨a, dx, fs, q1, q2, q3, rd_nil q4⟩
theorem rd_make {w : World} {K : PySem.W.Frag} {mg : Str → Option Value} {σ : L2.St} {H : Hp} {Q : VK} (hn : ∀ ρ S rs S1, am ρ S = .ok rs S1 → rs.length = n) (h : rdE w K mg W (mMake c F am) σ H Q) :
    tMakeE (clsA K c) (spF w K mg (n + 1) F) (WE W) (rdA w K mg W am) σ H Q := by
  obtain ⟨φ, ρ, S, eo, so, h⟩ := h
  refine ⟨φ, ρ, S, eo, so, (EndR.bind h).imp fun rs φ1 S1 H1 er g1 so1 h1 vs r1 => ?_⟩
  intro x dx hx hdx hne
  have hlen : vs.length = n := by rw [RelRs.length r1]; exact hn _ _ _ _ er
  have sm : L2.Same H1 (upd (upd H1 dx (.own x)) x (.ins (clsA K c) dx [])) := fun b o e => by rw [upd_ne (ne_of_none e hx), upd_ne (ne_of_none e hdx)]; exact e
  have so2 := so1.same sm
  have nx : x ∉ φ1 := so1.free hx
  have gg : Grow φ1 H1 (φ1 ++ [x]) (upd (upd H1 dx (.own x)) x (.ins (clsA K c) dx [])) := ⟨List.prefix_append _ _, fun b o e _ => sm b o e, fun b hb => by
    rcases List.mem_append.mp hb with hb | hb
    · exact .inl hb
    · rw [List.mem_singleton.mp hb]; exact .inr hx⟩
  have so3 : StOk w K (φ1 ++ [x]) (upd (upd H1 dx (.own x)) x (.ins (clsA K c) dx [])) (S1 ++ [.obj c []]) := by
    refine ⟨by simp [so1.len], List.nodup_append.mpr ⟨so1.nd, by simp, fun a ha b hb => by rw [List.mem_singleton.mp hb]; exact fun z => nx (z ▸ ha)⟩, fun b hb => ?_, fun i b c' e1 e2 => ?_⟩
    · rcases List.mem_append.mp hb with hb | hb
      · exact so2.there b hb
      · rw [List.mem_singleton.mp hb]; exact ⟨_, upd_same⟩
    · by_cases hi : i < φ1.length
      · rw [List.getElem?_append_left hi] at e1
        rw [List.getElem?_append_left (by rw [← so1.len]; exact hi)] at e2
        exact (so2.cell i b c' e1 e2).mono (List.prefix_append _ _) (fun _ _ _ e => e) fun _ e => e
      · have hi' : i = φ1.length := by
          have := (List.getElem?_eq_some_iff.mp e1).1
          simp at this; omega
        subst hi'
        rw [List.getElem?_append_right (Nat.le_refl _), Nat.sub_self] at e1
        rw [so1.len, List.getElem?_append_right (Nat.le_refl _), Nat.sub_self] at e2
        simp at e1 e2
        subst e1; subst e2
        exact ⟨dx, [], upd_same, .nil⟩
  have rx : RelR K (φ1 ++ [x]) (upd (upd H1 dx (.own x)) x (.ins (clsA K c) dx [])) (.ref x) (.ref S1.length) := ⟨x, by rw [← so1.len, List.getElem?_append_right (Nat.le_refl _), Nat.sub_self]; rfl, rfl⟩
  refine ⟨φ1 ++ [x], .ref S1.length :: rs, S1 ++ [.obj c []], by simp [hlen], so3, .cons rx (RelRs.grow gg r1), ?_⟩
  have h2 := EndR.later gg h1
  have h3 := EndR.bind h2
  cases q : F (.ref S1.length :: rs) (S1 ++ [.obj c []]) with
  | ok r S3 =>
    rw [q] at h3
    intro φ' v H' g so' r'
    have h4 := h3 φ' H' g so'
    cases r with
    | ref _ => exact h4.elim
    | d y =>
      cases y with
      | none =>
        cases r'
        exact ⟨rfl, h4.now so' _ (rx.grow g)⟩
      | _ => exact h4.elim
  | ex y S3 => rw [q] at h3; exact fun φ' H' cls dA g so' q' => h3 φ' H' cls dA g so' q'
  | no => rw [q] at h3; exact h3
theorem i_make (h : Cx' X.prog X.w X.K X.mg X.base c (n + 1) k F) (hr : Room (k + 1) X.A) (tk : Takes X W) (ha : IA X W (e :: es) am) (hn : ∀ ρ S rs S1, am ρ S = .ok rs S1 → rs.length = n) (hg : Gl X (Str.ofString c) := by rfl) (hdb : (Str.ofString c == ("__debug__" : Str)) = false := by decide)
    (he : starEach (e :: es) X.env = (false, eval e X.env) :: starEach es X.env := by rfl) (hpl : (backTo pos (starEach es X.env)).any (·.1) = false := by rfl) : IE X W (.Call (.Name (Str.ofString c) p) (e :: es) [] pos) (mMake c F am) := by
  obtain ⟨f, fd, ps, h1, h2, h3, h4, h5⟩ := h.ex
  exact ⟨fun pins s σ H Q I q => (makeP h2 h5 hr hg h1 h3 (fun σ => passAt tk σ) ha hdb he hpl).run pins s σ H Q I (rd_make hn q)⟩
theorem i_make0 (h : Cx' X.prog X.w X.K X.mg X.base c 1 k F) (hr : Room (k + 1) X.A) (tk : Takes X W) (hg : Gl X (Str.ofString c) := by rfl) (hdb : (Str.ofString c == ("__debug__" : Str)) = false := by decide) : IE X W (.Call (.Name (Str.ofString c) p) [] [] pos) (mMake c F mNil) := by
  obtain ⟨f, fd, ps, h1, h2, h3, h4, h5⟩ := h.ex
  refine ⟨fun pins s σ H Q I q => (makeP0 h2 h5 hr hg h1 h3 (fun σ => passAt tk σ) hdb).run pins s σ H Q I ?_⟩
  exact rd_nil (rd_make (n := 0) len_nil q)
end
end Pi

set_option Elab.async false
set_option linter.all false
set_option maxRecDepth 100000
/-! PiDic: dicts as cells: d[k], in, get, d[k] = v, pop; keys that are ints and texts, or tuples. -/
namespace Pi
open PySem PySem.Spec PyProof.Rows L2

/-! ### keys that are tuples -/
mutual
theorem toKey_eq : ∀ (a b : D) (k j : NestedKey), toKey a = some k → toKey b = some j → kEq a b = decide (k = j)
  | .none, b, k, j, h1, h2 => by
    cases h1
    cases b with
    | none => cases h2; simp [kEq]
    | int i => cases h2; simp [kEq]
    | str x => cases h2; simp [kEq]
    | tuple xs => unfold toKey at h2; cases q : toKeys xs <;> rw [q] at h2 <;> cases h2; simp [kEq]
    | _ => cases h2
  | .int i, b, k, j, h1, h2 => by
    cases h1
    cases b with
    | none => cases h2; simp [kEq]
    | int i => cases h2; simp [kEq]
    | str x => cases h2; simp [kEq]
    | tuple xs => unfold toKey at h2; cases q : toKeys xs <;> rw [q] at h2 <;> cases h2; simp [kEq]
    | _ => cases h2
  | .str x, b, k, j, h1, h2 => by
    cases h1
    cases b with
    | none => cases h2; simp [kEq]
    | int i => cases h2; simp [kEq]
    | str x => cases h2; simp [kEq]
    | tuple xs => unfold toKey at h2; cases q : toKeys xs <;> rw [q] at h2 <;> cases h2; simp [kEq]
    | _ => cases h2
  | .tuple xs, b, k, j, h1, h2 => by
    unfold toKey at h1
    cases q : toKeys xs with
    | none => rw [q] at h1; cases h1
    | some ks =>
      rw [q] at h1; cases h1
      cases b with
      | none => cases h2; simp [kEq]
      | int i => cases h2; simp [kEq]
      | str x => cases h2; simp [kEq]
      | tuple ys =>
        unfold toKey at h2
        cases q2 : toKeys ys with
        | none => rw [q2] at h2; cases h2
        | some js =>
          rw [q2] at h2; cases h2
          rw [kEq, toKeys_eq xs ys ks js q q2]
          simp
      | _ => cases h2
  | .bool _, _, _, _, h1, _ => by cases h1
  | .list _, _, _, _, h1, _ => by cases h1
  | .dict _, _, _, _, h1, _ => by cases h1
theorem toKeys_eq : ∀ (a b : List D) (k j : List NestedKey), toKeys a = some k → toKeys b = some j → kEqs a b = decide (k = j)
  | [], [], k, j, h1, h2 => by cases h1; cases h2; simp [kEqs]
  | [], y :: ys, k, j, h1, h2 => by
    cases h1
    unfold toKeys at h2
    split at h2 <;> cases h2
    simp [kEqs]
  | x :: xs, [], k, j, h1, h2 => by
    cases h2
    unfold toKeys at h1
    split at h1 <;> cases h1
    simp [kEqs]
  | x :: xs, y :: ys, k, j, h1, h2 => by
    unfold toKeys at h1 h2
    split at h1
    · rename_i k1 ks1 e1 e2
      cases h1
      split at h2
      · rename_i j1 js1 e3 e4
        cases h2
        rw [kEqs, toKey_eq x y k1 j1 e1 e3, toKeys_eq xs ys ks1 js1 e2 e4]
        simp [Bool.decide_and]
      · cases h2
    · cases h1
end
theorem keyH_to {d : D} {k : NestedKey} (h : keyH d = some k) : toKey d = some k ∧ k.depth ≤ 6 ∧ ∃ xs, d = .tuple xs := by
  unfold keyH at h
  split at h
  · rename_i xs
    split at h
    · rename_i ks e
      split at h
      · rename_i hd
        cases h
        refine ⟨?_, hd, xs, rfl⟩
        unfold toKey
        rw [e]; rfl
      · cases h
    · cases h
  · cases h
theorem keyH_eq {a b : D} {k j : NestedKey} (h1 : keyH a = some k) (h2 : keyH b = some j) : kEq a b = decide (k = j) := toKey_eq a b k j (keyH_to h1).1 (keyH_to h2).1
section
variable {X : Cx} {pins : List (Addr × Obj)} {σ : L2.St} {H : Hp} {s : Shared}
mutual
theorem nested_is (I : Inv X pins σ H s) : ∀ (d : D) (k : NestedKey) (v : V) (u : Value), toKey d = some k → Df X.K H v d → RelV v u → NestedIs s.heap k u
  | .none, k, v, u, e, h, r => by cases e; cases h; cases r; exact .none
  | .int i, k, v, u, e, h, r => by
    cases e; cases h
    obtain ⟨t, rfl⟩ := (show ∃ t, u = Value.int i t from r)
    exact .int _ _
  | .str x, k, v, u, e, h, r => by
    cases e; cases h
    obtain ⟨t, rfl⟩ := (show ∃ t, u = Value.str x t from r)
    exact .text _ _
  | .tuple xs, k, v, u, e, h, r => by
    unfold toKey at e
    cases q : toKeys xs with
    | none => rw [q] at e; cases e
    | some ks =>
      rw [q] at e; cases e
      obtain ⟨a, vs, rfl, hs, df⟩ := h.tup_at
      cases r
      obtain ⟨its, rv, ⟨o, ho, hc, n, hd⟩, hz⟩ := I.tuple hs.sq
      exact .tup ho hc hd (by simpa using nested_all I xs ks vs its q df rv)
  | .bool _, _, _, _, e, _, _ => by cases e
  | .list _, _, _, _, e, _, _ => by cases e
  | .dict _, _, _, _, e, _, _ => by cases e
theorem nested_all (I : Inv X pins σ H s) : ∀ (ds : List D) (ks : List NestedKey) (vs : List V) (us : List Value), toKeys ds = some ks → DfAll X.K H vs ds → Vals vs us → NestedAll s.heap ks us
  | [], ks, vs, us, e, h, r => by cases e; cases h; cases r; exact .nil
  | d :: ds, ks, vs, us, e, h, r => by
    unfold toKeys at e
    split at e
    · rename_i k1 ks1 e1 e2
      cases e
      cases h with
      | cons h1 h2 =>
        cases r with
        | cons r1 r2 => exact .cons (nested_is I d k1 _ _ e1 h1 r1) (nested_all I ds ks1 _ _ e2 h2 r2)
    · cases e
end
/-- the tuple at b is the key k -/
def KeyAt (K : PySem.W.Frag) (H : Hp) (b : Addr) (k : NestedKey) : Prop := ∃ d, keyH d = some k ∧ Df K H (.ref b) d
theorem KeyAt.is {P : Program} {w : World} (I : Inv X pins σ H s) {b : Addr} {k : NestedKey} (h : KeyAt X.K H b k) : (nestedKind P w).is s.heap k b := by
  obtain ⟨d, e, df⟩ := h
  obtain ⟨e1, e2, _⟩ := keyH_to e
  exact ⟨nested_is I d k _ _ e1 df rfl, by omega⟩
abbrev XsAt (K : PySem.W.Frag) (H : Hp) (xs : List (NestedKey × Addr × Value)) : Prop := ∀ x ∈ xs, KeyAt K H x.2.1 x.1
theorem dih_of (I : Inv X pins σ H s) {a : Addr} {xs : List (NestedKey × Addr × Value)} (e : Rd H a (DicO X.w a xs)) (hk : XsAt X.K H xs) : xs.length ≤ sizeLine ∧ (a == sysModules) = false ∧ s.heap.DictOfH (nestedKind X.prog X.w) a xs := by
  obtain ⟨⟨⟨o, ep, h1, h2, h3⟩, hz, hs, nd⟩, _, _⟩ := (show ObjOk X.prog X.w H s.heap a (DicO X.w a xs) from e.ok I.hok)
  exact ⟨hz, hs, o, _, ep, h1, h2, h3, (by rw [List.toList_toArray]; rfl), fun x hx => (hk x hx).is I, nd⟩
theorem dicO_ok {P : Program} {w : World} {H' : Hp} {h : Heap} {a : Addr} {xs : List (NestedKey × Addr × Value)} (hz : xs.length ≤ sizeLine) (hs : (a == sysModules) = false) (d : h.DictOfH (nestedKind P w) a xs) : ObjOk P w H' h a (DicO w a xs) := by
  obtain ⟨o, es, ep, h1, h2, h3, h4, h5, nd⟩ := d
  refine ⟨⟨⟨o, ep, h1, h2, ?_⟩, hz, hs, nd⟩, ⟨o, h1⟩, fun g1 g2 hh kk => ?_⟩
  · rw [h3]
    congr 1
    rw [← Array.toArray_toList (xs := es), h4]
    rfl
  · obtain ⟨⟨o', ep', q1, q2, q3⟩, q4⟩ := hh
    exact ⟨⟨o', ep', kk _ q1, q2, q3⟩, q4⟩
end
/-! ### what is found -/
def DGetH (w : World) (K : PySem.W.Frag) (H : Hp) (a : Addr) (y : V) (o : Option V) : Prop := ∃ xs k b, Rd H a (DicO w a xs) ∧ XsAt K H xs ∧ y = .ref b ∧ KeyAt K H b k ∧ RelO o ((atKey xs k).map (·.2))
def DGetP (w : World) (K : PySem.W.Frag) (H : Hp) (a : Addr) (y : V) (o : Option V) : Prop := DGet H a y o ∨ DGetH w K H a y o
def IsDP (w : World) (K : PySem.W.Frag) (H : Hp) (a : Addr) : Prop := IsD H a ∨ ∃ xs, Rd H a (DicO w a xs) ∧ XsAt K H xs
theorem room_of {A : Around} (hu : A.units + 128 < cLine) (P : Program) (w : World) : (nestedKind P w).room A.in1 := by
  show A.units + 1 + 8 < cLine
  omega
section
variable {X : Cx} {pins : List (Addr × Obj)} {σ : L2.St} {H : Hp} {s : Shared} {a : Addr} {y d : V} {u r : Value} {o : Option V}
theorem isDP_at (I : Inv X pins σ H s) (d : IsDP X.w X.K H a) : s.TypeIs (.ref a) "dict" ∧ (∀ b, Value.ref a = .ref b → ∃ ob, s.heap.get? b = some ob ∧ ob.dict = none) ∧ (a == sysModules) = false := by
  rcases d with d | ⟨xs, e, hk⟩
  · exact isD_at I d
  · obtain ⟨hz, hs, dd⟩ := dih_of I e hk
    refine ⟨dd.typeIs, fun b q => ?_, hs⟩
    cases q
    obtain ⟨ob, _, _, h1, h2, _⟩ := dd
    exact ⟨ob, h1, h2.2.1⟩
theorem DGetP.isD (h : DGetP X.w X.K H a y o) : IsDP X.w X.K H a := by
  rcases h with h | ⟨xs, k, b, e, hk, _⟩
  · rcases h with ⟨kvs, k, e, _, _⟩ | ⟨kvs, k, b, e, _, _, _⟩
    · exact .inl (.inl ⟨kvs, e⟩)
    · exact .inl (.inr ⟨kvs, e⟩)
  · exact .inr ⟨xs, e, hk⟩
variable {A : Around} {E : Value → Shared → Prop}
theorem relO_some {v : V} {p : Option Value} (h : RelO (some v) p) : ∃ u, p = some u ∧ RelV v u := by
  cases p with
  | none => exact h.elim
  | some u => exact ⟨u, rfl, h⟩
theorem p_getItem {v : V} {Q : Value → Shared → Prop} (hu : A.units + 128 < cLine) (I : Inv X pins σ H s) (g : DGetP X.w X.K H a y (some v)) (ry : RelV y u) (h : ∀ w' s', Inv X pins σ H s' → RelV v w' → Q w' s') : wpAny (model X.prog X.w) A (getItem (.ref a) u) Q E s := by
  rcases g with g | ⟨xs, k, b, e, hk, rfl, kb, l⟩
  · exact d_getItem (by omega) I g ry h
  · cases (show u = Value.ref b from ry)
    obtain ⟨hz, hs, dd⟩ := dih_of I e hk
    obtain ⟨u', e1, e2⟩ := relO_some l
    cases q : atKey xs k with
    | none => rw [q] at e1; cases e1
    | some p =>
      rw [q] at e1; cases e1
      exact wpAny_getItem_heap (knd := nestedKind X.prog X.w) (room_of hu _ _) (kb.is I) dd q (h _ _ (I.tok _) e2)
theorem relO_is {o : Option V} {p : Option Value} (h : RelO o p) : p.isSome = o.isSome := by
  cases o <;> cases p
  · rfl
  · exact h.elim
  · exact h.elim
  · rfl
theorem p_in {Q : Value → Shared → Prop} (hu : A.units + 128 < cLine) (I : Inv X pins σ H s) (g : DGetP X.w X.K H a y o) (ry : RelV y u) (h : ∀ s', Inv X pins σ H s' → Q (.bool o.isSome) s') : wpAny (model X.prog X.w) A (compareOp .In u (.ref a)) Q E s := by
  rcases g with g | ⟨xs, k, b, e, hk, rfl, kb, l⟩
  · exact d_in (by omega) I g ry h
  · cases (show u = Value.ref b from ry)
    obtain ⟨hz, hs, dd⟩ := dih_of I e hk
    refine in_keyed (knd := nestedKind X.prog X.w) (room_of hu _ _) (kb.is I) hs ⟨xs, dd, rfl⟩ ?_
    rw [valueAt_pairsH, relO_is l]
    exact h _ (I.tok _)
theorem p_notIn {Q : Value → Shared → Prop} (hu : A.units + 128 < cLine) (I : Inv X pins σ H s) (g : DGetP X.w X.K H a y o) (ry : RelV y u) (h : ∀ s', Inv X pins σ H s' → Q (.bool (!o.isSome)) s') : wpAny (model X.prog X.w) A (compareOp .NotIn u (.ref a)) Q E s := by
  rcases g with g | ⟨xs, k, b, e, hk, rfl, kb, l⟩
  · exact d_notIn (by omega) I g ry h
  · cases (show u = Value.ref b from ry)
    obtain ⟨hz, hs, dd⟩ := dih_of I e hk
    refine notIn_keyed (knd := nestedKind X.prog X.w) (room_of hu _ _) (kb.is I) hs ⟨xs, dd, rfl⟩ ?_
    rw [valueAt_pairsH, relO_is l]
    exact h _ (I.tok _)
theorem relO_getD {o : Option V} {p : Option Value} {d : V} {d' : Value} (h : RelO o p) (hd : RelV d d') : RelV (o.getD d) (p.getD d') := by
  cases o <;> cases p
  · exact hd
  · exact h.elim
  · exact h.elim
  · exact h
theorem p_get1 {Q : Value → Shared → Prop} (hu : A.units + 128 < cLine) (I : Inv X pins σ H s) (g : DGetP X.w X.K H a y o) (ry : RelV y u) (h : ∀ w' s', Inv X pins σ H s' → RelV (o.getD .non) w' → Q w' s') : wpAny (model X.prog X.w) A (call (.builtin "dict.get") [.ref a, u]) Q E s := by
  rcases g with g | ⟨xs, k, b, e, hk, rfl, kb, l⟩
  · exact d_get1 (by omega) I g ry h
  · cases (show u = Value.ref b from ry)
    obtain ⟨hz, hs, dd⟩ := dih_of I e hk
    refine get_keyed (knd := nestedKind X.prog X.w) (room_of hu _ _) (kb.is I) hs ⟨xs, dd, rfl⟩ ?_
    rw [valueAt_pairsH]
    exact h _ _ (I.tok _) (relO_getD l rfl)
theorem p_get2 {Q : Value → Shared → Prop} (hu : A.units + 128 < cLine) (I : Inv X pins σ H s) (g : DGetP X.w X.K H a y o) (ry : RelV y u) (rd : RelV d r) (h : ∀ w' s', Inv X pins σ H s' → RelV (o.getD d) w' → Q w' s') : wpAny (model X.prog X.w) A (call (.builtin "dict.get") [.ref a, u, r]) Q E s := by
  rcases g with g | ⟨xs, k, b, e, hk, rfl, kb, l⟩
  · exact d_get2 (by omega) I g ry rd h
  · cases (show u = Value.ref b from ry)
    obtain ⟨hz, hs, dd⟩ := dih_of I e hk
    refine getOr_keyed (knd := nestedKind X.prog X.w) (room_of hu _ _) (kb.is I) hs ⟨xs, dd, rfl⟩ ?_
    rw [valueAt_pairsH]
    exact h _ _ (I.tok _) (relO_getD l rd)
end
/-! ### d[k] = v, d.pop(k) of tuple keys -/
theorem storedH_at {K : PySem.W.Frag} {H : Hp} {xs : List (NestedKey × Addr × Value)} (hk : XsAt K H xs) {k : NestedKey} {b : Addr} (kb : KeyAt K H b k) (u : Value) : XsAt K H (storedH xs k b u) := fun x hx => by
  unfold storedH at hx
  split at hx
  · obtain ⟨y, hy, rfl⟩ := List.mem_map.mp hx
    unfold putAt
    split <;> exact hk y hy
  · rcases List.mem_append.mp hx with hx | hx
    · exact hk x hx
    · rw [List.mem_singleton.mp hx]; exact kb
theorem storedH_len (xs : List (NestedKey × Addr × Value)) (k : NestedKey) (b : Addr) (u : Value) : (storedH xs k b u).length ≤ xs.length + 1 := by
  unfold storedH
  split <;> simp
def rSetH (w : World) (K : PySem.W.Frag) : TSet := fun o i v H Q => ∃ a b xs k, o = .ref a ∧ i = .ref b ∧ H a = some (DicO w a xs) ∧ XsAt K H xs ∧ KeyAt K H b k ∧ xs.length < sizeLine ∧ ∀ u, RelV v u → Q (upd H a (DicO w a (storedH xs k b u)))
section
variable {X : Cx} {pins : List (Addr × Obj)} {σ : L2.St} {H : Hp} {s : Shared}
theorem dih_write (I : Inv X pins σ H s) {a : Addr} {xs ys : List (NestedKey × Addr × Value)} {h' : Heap} {tk : Nat} (e : H a = some (DicO X.w a xs)) (hs : Heap.SameBut a s.heap h') (d : h'.DictOfH (nestedKind X.prog X.w) a ys) (hz : ys.length ≤ sizeLine) (hm : (a == sysModules) = false) : Inv X pins σ (upd H a (DicO X.w a ys)) { s with heap := h', toks := tk } := by
  have hd : ∃ o, h'.get? a = some o := let ⟨o, _, _, q, _⟩ := d; ⟨o, q⟩
  exact I.write (x := a) (e := a) (by rw [e]; exact True.intro) (.inl rfl) (fun b q hb z => (hs.2 b hb).trans z) hd (dicO_ok hz hm d)
theorem set_dih (hu : X.A.units + 128 < cLine) : PSet X (rSetH X.w X.K) := by
  intro pins s σ H o i v ov iv u Q I ro ri rv h
  obtain ⟨a, b, xs, k, rfl, rfl, e, hk, kb, hl, q⟩ := h
  cases (show ov = Value.ref a from ro)
  cases (show iv = Value.ref b from ri)
  obtain ⟨hz, hs, dd⟩ := dih_of I (.inl e) hk
  refine wpAny_setItem_heap (knd := nestedKind X.prog X.w) (hsz := hz) (room_of hu _ _) (kb.is I) dd fun h' d' sb => ?_
  exact ⟨_, dih_write I e sb d' (by have := storedH_len xs k b u; omega) hs, q u rv⟩
end
/-! ### cells -/
/-- a dict's entries; whether its keys are tuples -/
def dicAt (S : Store) : R → Option (Bool × List (D × R))
  | .ref n => match S[n]? with
    | some (.dic kvs) => some (false, kvs)
    | some (.lck kvs) => some (false, kvs)
    | some (.dih kvs) => some (true, kvs)
    | some (.lch kvs) => some (true, kvs)
    | _ => none
  | .d _ => none
def keyOk (b : Bool) (k : D) : Bool := if b then (keyH k).isSome else (keyOf k).isSome
def dlook (S : Store) (r : R) (k : D) : Option (Option R) := match dicAt S r with
  | some (b, kvs) => if keyOk b k = true then some (getKv kvs k) else none
  | none => none
section
variable {w : World} {K : PySem.W.Frag} {φ : List Addr} {H : Hp} {S : Store}
theorem rh_get {xs : List (NestedKey × Addr × Value)} {kvs : List (D × R)} (h : RelH K φ H xs kvs) {d : D} {k : NestedKey} (e : keyH d = some k) : match getKv kvs d with
    | some r => ∃ v, RelO (some v) ((atKey xs k).map (·.2)) ∧ RelR K φ H v r
    | none => atKey xs k = none := by
  induction h with
  | nil => rfl
  | @cons p t p' t' h _ ih =>
    obtain ⟨h1, h2, v, h3, h4⟩ := h
    unfold getKv atKey at ih ⊢
    rw [List.find?_cons, List.find?_cons, keyH_eq h1 e]
    by_cases q : p.1 = k
    · rw [decide_eq_true q]
      exact ⟨v, h3, h4⟩
    · rw [decide_eq_false q]
      exact ih
theorem rh_xs {xs : List (NestedKey × Addr × Value)} {kvs : List (D × R)} (h : RelH K φ H xs kvs) : XsAt K H xs := by
  induction h with
  | nil => intro x hx; cases hx
  | @cons p t p' t' h _ ih =>
    intro x hx
    rcases List.mem_cons.mp hx with rfl | hx
    · exact ⟨_, h.1, h.2.1⟩
    · exact ih x hx
theorem rh_len {xs : List (NestedKey × Addr × Value)} {kvs : List (D × R)} (h : RelH K φ H xs kvs) : xs.length = kvs.length := by
  induction h with
  | nil => rfl
  | cons _ _ ih => rw [List.length_cons, List.length_cons, ih]
def RelOV (K : PySem.W.Frag) (φ : List Addr) (H : Hp) (ov : Option V) : Option R → Prop
  | some r => ∃ v, ov = some v ∧ RelR K φ H v r
  | none => ov = none
theorem look_cell (so : StOk w K φ H S) {r : R} {x : V} {k : D} {y : V} {o : Option R} (qr : RelR K φ H x r) (qy : Df K H y k) (e : dlook S r k = some o) : ∃ a ov, x = .ref a ∧ DGetP w K H a y ov ∧ RelOV K φ H ov o := by
  have key : ∀ {a : Addr} {kv : List (L2.Key × V)} {kvs : List (D × R)}, Rd H a (.dK kv) → RelKv K φ H kv kvs → keyOk false k = true → getKv kvs k = o → ∃ ov, DGetP w K H a y ov ∧ RelOV K φ H ov o := fun {a kv kvs} ha hr hk ho => by
    unfold keyOk at hk
    rw [if_neg Bool.false_ne_true] at hk
    obtain ⟨j, ej⟩ := Option.isSome_iff_exists.mp hk
    have hg := kv_get hr j
    rw [keyD_of ej, ho] at hg
    refine ⟨valV kv j, .inl (.inl ⟨kv, j, ha, dn_key (.of qy) ej, rfl⟩), ?_⟩
    cases o with
    | none => exact hg
    | some r' => exact hg
  have keyh : ∀ {a : Addr} {xs : List (NestedKey × Addr × Value)} {kvs : List (D × R)}, Rd H a (DicO w a xs) → RelH K φ H xs kvs → keyOk true k = true → getKv kvs k = o → ∃ ov, DGetP w K H a y ov ∧ RelOV K φ H ov o := fun {a xs kvs} ha hr hk ho => by
    unfold keyOk at hk
    rw [if_pos rfl] at hk
    obtain ⟨j, ej⟩ := Option.isSome_iff_exists.mp hk
    have hg := rh_get hr ej
    rw [ho] at hg
    obtain ⟨_, _, ds, rfl⟩ := keyH_to ej
    obtain ⟨b, vs, rfl, hs, df⟩ := qy.tup_at
    have kb : KeyAt K H b j := ⟨_, ej, .tup hs df⟩
    cases o with
    | none =>
      have hg' : atKey xs j = none := hg
      exact ⟨none, .inr ⟨xs, j, b, ha, rh_xs hr, rfl, kb, by rw [hg']; exact True.intro⟩, rfl⟩
    | some r' =>
      obtain ⟨v, h1, h2⟩ := hg
      exact ⟨some v, .inr ⟨xs, j, b, ha, rh_xs hr, rfl, kb, h1⟩, v, rfl, h2⟩
  unfold dlook at e
  split at e
  · rename_i b kvs ed
    split at e
    · rename_i hk
      cases e
      unfold dicAt at ed
      split at ed
      · rename_i n
        obtain ⟨a, ha, rfl⟩ := qr
        split at ed <;> first | cases ed | skip
        · rename_i es
          obtain ⟨kv, q1, q2⟩ := so.cell n a _ ha es
          obtain ⟨ov, z⟩ := key (.inl q1) q2 hk rfl
          exact ⟨a, ov, rfl, z⟩
        · rename_i es
          obtain ⟨oo, kv, q1, q2⟩ := so.cell n a _ ha es
          obtain ⟨ov, z⟩ := key (.inr ⟨oo, q1⟩) q2 hk rfl
          exact ⟨a, ov, rfl, z⟩
        · rename_i es
          obtain ⟨xs, q1, q2⟩ := so.cell n a _ ha es
          obtain ⟨ov, z⟩ := keyh (.inl q1) q2 hk rfl
          exact ⟨a, ov, rfl, z⟩
        · rename_i es
          obtain ⟨oo, xs, q1, q2⟩ := so.cell n a _ ha es
          obtain ⟨ov, z⟩ := keyh (.inr ⟨oo, q1⟩) q2 hk rfl
          exact ⟨a, ov, rfl, z⟩
      · cases ed
    · cases e
  · cases e
end
theorem isdic_cell {w : World} {K : PySem.W.Frag} {φ : List Addr} {H : Hp} {S : Store} (so : StOk w K φ H S) {r : R} {x : V} (q : RelR K φ H x r) (h : (dicAt S r).isSome = true) : ∃ a, x = .ref a ∧ IsDP w K H a := by
  unfold dicAt at h
  cases r with
  | d _ => cases h
  | ref n =>
    obtain ⟨a, ha, rfl⟩ := q
    refine ⟨a, rfl, ?_⟩
    cases e : S[n]? with
    | none => simp [e] at h
    | some c =>
      simp only [e] at h
      cases c with
      | dic kvs => obtain ⟨kv, q1, q2⟩ := so.cell n a _ ha e; exact .inl (.inl ⟨kv, .inl q1⟩)
      | lck kvs => obtain ⟨o, kv, q1, q2⟩ := so.cell n a _ ha e; exact .inl (.inl ⟨kv, .inr ⟨o, q1⟩⟩)
      | dih kvs => obtain ⟨xs, q1, q2⟩ := so.cell n a _ ha e; exact .inr ⟨xs, .inl q1, rh_xs q2⟩
      | lch kvs => obtain ⟨o, xs, q1, q2⟩ := so.cell n a _ ha e; exact .inr ⟨xs, .inr ⟨o, q1⟩, rh_xs q2⟩
      | _ => cases h
/-- d[k] -/
def mDGet (d k : EM) : EM := fun ρ S => (d ρ S).bind fun rd S1 => (k ρ S1).bind fun rk S2 => match rdR rk with
  | some kd => match dlook S2 rd kd with
    | some (some r) => .ok r S2
    | _ => .no
  | none => .no
/-- k in d; k not in d -/
def mDIn (neg : Bool) (k d : EM) : EM := fun ρ S => (k ρ S).bind fun rk S1 => (d ρ S1).bind fun rd S2 => match rdR rk with
  | some kd => match dlook S2 rd kd with
    | some o => .ok (.d (.bool (o.isSome != neg))) S2
    | none => .no
  | none => .no
def isDic (S : Store) (r : R) : Bool := (dicAt S r).isSome
/-- d.get(k) -/
def mDGet1 (d k : EM) : EM := fun ρ S => (d ρ S).bind fun rd S1 => if isDic S1 rd = true then (k ρ S1).bind fun rk S2 => (match rdR rk with
  | some kd => match dlook S2 rd kd with
    | some o => .ok (o.getD (.d .none)) S2
    | none => .no
  | none => .no) else .no
/-- d.get(k, x) -/
def mDGet2 (d k x : EM) : EM := fun ρ S => (d ρ S).bind fun rd S1 => if isDic S1 rd = true then (k ρ S1).bind fun rk S2 => (x ρ S2).bind fun rx S3 => (match rdR rk with
  | some kd => match dlook S3 rd kd with
    | some o => .ok (o.getD rx) S3
    | none => .no
  | none => .no) else .no
def tDGetP (w : World) (K : PySem.W.Frag) (td ty : TE) : TE := fun σ H Q => td σ H fun x H1 => ty σ H1 fun y H2 => ∃ a v, x = .ref a ∧ DGetP w K H2 a y (some v) ∧ Q v H2
def tDInP (neg : Bool) (w : World) (K : PySem.W.Frag) (ty td : TE) : TE := fun σ H Q => ty σ H fun y H1 => td σ H1 fun x H2 => ∃ a o, x = .ref a ∧ DGetP w K H2 a y o ∧ Q (.bl (o.isSome != neg)) H2
def tDGet1P (w : World) (K : PySem.W.Frag) (td ty : TE) : TE := fun σ H Q => td σ H fun x H1 => ∃ a, x = .ref a ∧ IsDP w K H1 a ∧ ty σ H1 fun y H2 => ∃ o, DGetP w K H2 a y o ∧ Q (o.getD .non) H2
def tDGet2P (w : World) (K : PySem.W.Frag) (td ty tx : TE) : TE := fun σ H Q => td σ H fun x H1 => ∃ a, x = .ref a ∧ IsDP w K H1 a ∧ ty σ H1 fun y H2 => tx σ H2 fun z H3 => ∃ o, DGetP w K H3 a y o ∧ Q (o.getD z) H3
section
variable {X : Cx} {W : WX} {o i e f : Expr} {pos apos cpos : Pos} {td ty tx : TE} {mo mi me mf : EM}
theorem pe_getP (hu : X.A.units + 128 < cLine) (ho : PE X o td) (hi : PE X i ty) (hs : NoSl i) : PE X (.Subscript o i pos) (tDGetP X.w X.K td ty) := by
  constructor
  intro pins s σ H Q I h
  refine subD_of PySem.F.slot_dict_getitem.lookup hs (thn (ho.run pins s σ H _ I h) ?_)
  rintro u s1 ⟨x, H1, I1, rx, q1⟩
  refine thn (hi.run pins s1 σ H1 _ I1 q1) ?_
  rintro iv s2 ⟨y, H2, I2, ry, a, v, ex, g, q2⟩
  subst ex
  obtain rfl : u = Value.ref a := rx
  exact ⟨(isDP_at I2 g.isD).1, p_getItem hu I2 g ry fun w' s3 I3 rw' => ⟨v, H2, I3, rw', q2⟩⟩
theorem pc_inP (hu : X.A.units + 128 < cLine) (hi : PE X i ty) (ho : PE X o td) : PC X .In i o (tDInP false X.w X.K ty td) := by
  constructor
  intro pins s σ H Q I h
  refine thn (hi.run pins s σ H _ I h) ?_
  rintro iv s1 ⟨y, H1, I1, ry, q1⟩
  refine thn (ho.run pins s1 σ H1 _ I1 q1) ?_
  rintro u s2 ⟨x, H2, I2, rx, a, ov, ex, g, q2⟩
  subst ex
  obtain rfl : u = Value.ref a := rx
  exact p_in hu I2 g ry fun s3 I3 => ⟨.bl (ov.isSome != false), H2, I3, by simp; rfl, q2⟩
theorem pc_notInP (hu : X.A.units + 128 < cLine) (hi : PE X i ty) (ho : PE X o td) : PC X .NotIn i o (tDInP true X.w X.K ty td) := by
  constructor
  intro pins s σ H Q I h
  refine thn (hi.run pins s σ H _ I h) ?_
  rintro iv s1 ⟨y, H1, I1, ry, q1⟩
  refine thn (ho.run pins s1 σ H1 _ I1 q1) ?_
  rintro u s2 ⟨x, H2, I2, rx, a, ov, ex, g, q2⟩
  subst ex
  obtain rfl : u = Value.ref a := rx
  exact p_notIn hu I2 g ry fun s3 I3 => ⟨.bl (ov.isSome != true), H2, I3, by cases ov <;> rfl, q2⟩
theorem pe_get1P (hu : X.A.units + 128 < cLine) (ho : PE X o td) (he : PE X e ty) (m : M1 X o "get" apos e cpos) : PE X (.Call (.Attribute o "get" apos) [e] [] cpos) (tDGet1P X.w X.K td ty) := by
  constructor
  intro pins s σ H Q I h
  refine wpAny_Call_method m.base m.few m.line PySem.F.plainAttrs_dict PySem.F.slot_dict_get PySem.F.type_dict_get (thn (ho.run pins s σ H _ I h) ?_)
  rintro u s1 ⟨x, H1, I1, rx, a, ex, d, q1⟩
  subst ex
  obtain rfl : u = Value.ref a := rx
  obtain ⟨t1, t2, _⟩ := isDP_at I1 d
  refine ⟨t1, t2, ?_⟩
  rw [m.trees]
  refine Calls.callWith_builtin rfl (Calls.evalArgs_plain (Calls.spliced_cons (thn (he.run pins s1 σ H1 _ I1 q1) ?_)))
  rintro iv s2 ⟨y, H2, I2, ry, ov, g, q2⟩
  exact Calls.spliced_nil (p_get1 hu I2 g ry fun w' s3 I3 rw' => ⟨_, H2, I3, rw', q2⟩)
theorem pe_get2P (hu : X.A.units + 128 < cLine) (ho : PE X o td) (he : PE X e ty) (hf : PE X f tx) (m : M2 X o "get" apos e f cpos) : PE X (.Call (.Attribute o "get" apos) [e, f] [] cpos) (tDGet2P X.w X.K td ty tx) := by
  constructor
  intro pins s σ H Q I h
  refine wpAny_Call_method m.base m.few m.line PySem.F.plainAttrs_dict PySem.F.slot_dict_get PySem.F.type_dict_get (thn (ho.run pins s σ H _ I h) ?_)
  rintro u s1 ⟨x, H1, I1, rx, a, ex, d, q1⟩
  subst ex
  obtain rfl : u = Value.ref a := rx
  obtain ⟨t1, t2, _⟩ := isDP_at I1 d
  refine ⟨t1, t2, ?_⟩
  rw [m.trees]
  refine Calls.callWith_builtin rfl (Calls.evalArgs_plain (Calls.spliced_cons (thn (he.run pins s1 σ H1 _ I1 q1) ?_)))
  rintro iv s2 ⟨y, H2, I2, ry, q2⟩
  refine Calls.spliced_cons (thn (hf.run pins s2 σ H2 _ I2 q2) ?_)
  rintro fv s3 ⟨z, H3, I3, rz, ov, g, q3⟩
  exact Calls.spliced_nil (p_get2 hu I3 g ry rz fun w' s4 I4 rw' => ⟨_, H3, I4, rw', q3⟩)
theorem i_dget (hu : X.A.units + 128 < cLine) (ho : IE X W o mo) (hi : IE X W i mi) (hs : NoSl i := by intro _ _; rfl) : IE X W (.Subscript o i pos) (mDGet mo mi) := PE.imp (pe_getP hu ho hi hs) fun σ H Q h => by
  obtain ⟨φ, ρ, S, eo, so, h⟩ := h
  refine ⟨φ, ρ, S, eo, so, (EndR.bind h).imp fun rd φ1 S1 H1 _ g1 so1 h1 x q1 => ?_⟩
  refine ⟨φ1, ρ, S1, eo.grow g1, so1, (EndR.bind h1).imp fun rk φ2 S2 H2 _ g2 so2 h2 y q2 => ?_⟩
  split at h2
  · rename_i kd ek
    split at h2
    · rename_i r el
      obtain ⟨a, ov, rfl, g, v, rfl, qv⟩ := look_cell so2 (q1.grow g2) (q2.plain ek) el
      exact ⟨a, v, rfl, g, h2.now so2 v qv⟩
    · exact h2.elim
  · exact h2.elim
theorem rd_din {neg : Bool} {σ : L2.St} {H : Hp} {Q : VK} (h : rdE X.w X.K X.mg W (mDIn neg mi mo) σ H Q) : tDInP neg X.w X.K (rdE X.w X.K X.mg W mi) (rdE X.w X.K X.mg W mo) σ H Q := by
  obtain ⟨φ, ρ, S, eo, so, h⟩ := h
  refine ⟨φ, ρ, S, eo, so, (EndR.bind h).imp fun rk φ1 S1 H1 _ g1 so1 h1 y q1 => ?_⟩
  refine ⟨φ1, ρ, S1, eo.grow g1, so1, (EndR.bind h1).imp fun rd φ2 S2 H2 _ g2 so2 h2 x q2 => ?_⟩
  split at h2
  · rename_i kd ek
    split at h2
    · rename_i o el
      obtain ⟨a, ov, rfl, g, hv⟩ := look_cell so2 q2 ((q1.grow g2).plain ek) el
      refine ⟨a, ov, rfl, g, ?_⟩
      have e : ov.isSome = o.isSome := by
        cases o with
        | none => rw [show ov = none from hv]; rfl
        | some r => obtain ⟨v, z, _⟩ := hv; rw [z]; rfl
      rw [e]
      exact h2.now so2 _ (.bl _)
    · exact h2.elim
  · exact h2.elim
theorem i_dget1 (hu : X.A.units + 128 < cLine) (ho : IE X W o mo) (he : IE X W e me) (m : M1 X o "get" apos e cpos := by exact ⟨rfl, rfl, rfl, rfl⟩) : IE X W (.Call (.Attribute o "get" apos) [e] [] cpos) (mDGet1 mo me) := PE.imp (pe_get1P hu ho he m) fun σ H Q h => by
  obtain ⟨φ, ρ, S, eo, so, h⟩ := h
  refine ⟨φ, ρ, S, eo, so, (EndR.bind h).imp fun rd φ1 S1 H1 _ g1 so1 h1 x q1 => ?_⟩
  split at h1
  · rename_i hd
    obtain ⟨a, rfl, isd⟩ := isdic_cell so1 q1 hd
    refine ⟨a, rfl, isd, φ1, ρ, S1, eo.grow g1, so1, (EndR.bind h1).imp fun rk φ2 S2 H2 _ g2 so2 h2 y q2 => ?_⟩
    split at h2
    · rename_i kd ek
      split at h2
      · rename_i r el
        obtain ⟨a', ov, ea, g, hv⟩ := look_cell so2 (q1.grow g2) (q2.plain ek) el
        cases ea
        refine ⟨ov, g, ?_⟩
        cases r with
        | none => rw [show ov = none from hv]; exact h2.now so2 _ .non
        | some r => obtain ⟨v, rfl, qv⟩ := hv; exact h2.now so2 _ qv
      · exact h2.elim
    · exact h2.elim
  · exact h1.elim
theorem i_dget2 (hu : X.A.units + 128 < cLine) (ho : IE X W o mo) (he : IE X W e me) (hf : IE X W f mf) (m : M2 X o "get" apos e f cpos := by exact ⟨rfl, rfl, rfl, rfl⟩) : IE X W (.Call (.Attribute o "get" apos) [e, f] [] cpos) (mDGet2 mo me mf) := PE.imp (pe_get2P hu ho he hf m) fun σ H Q h => by
  obtain ⟨φ, ρ, S, eo, so, h⟩ := h
  refine ⟨φ, ρ, S, eo, so, (EndR.bind h).imp fun rd φ1 S1 H1 _ g1 so1 h1 x q1 => ?_⟩
  split at h1
  · rename_i hd
    obtain ⟨a, rfl, isd⟩ := isdic_cell so1 q1 hd
    refine ⟨a, rfl, isd, φ1, ρ, S1, eo.grow g1, so1, (EndR.bind h1).imp fun rk φ2 S2 H2 _ g2 so2 h2 y q2 => ?_⟩
    refine ⟨φ2, ρ, S2, (eo.grow g1).grow g2, so2, (EndR.bind h2).imp fun rx φ3 S3 H3 _ g3 so3 h3 z q3 => ?_⟩
    split at h3
    · rename_i kd ek
      split at h3
      · rename_i r el
        obtain ⟨a', ov, ea, g, hv⟩ := look_cell so3 ((q1.grow g2).grow g3) ((q2.grow g3).plain ek) el
        cases ea
        refine ⟨ov, g, ?_⟩
        cases r with
        | none => rw [show ov = none from hv]; exact h3.now so3 _ q3
        | some r => obtain ⟨v, rfl, qv⟩ := hv; exact h3.now so3 _ qv
      · exact h3.elim
    · exact h3.elim
  · exact h1.elim
theorem i_din (hu : X.A.units + 128 < cLine) (hi : IE X W i mi) (ho : IE X W o mo) (hm : behindInMarks .In o = false := by rfl) : IE X W (.Compare i [.In] [o] pos) (mDIn false mi mo) := PE.imp (pe_cmp (pc_inP hu hi ho) hm) fun _ _ _ h => rd_din h
theorem i_dnotIn (hu : X.A.units + 128 < cLine) (hi : IE X W i mi) (ho : IE X W o mo) (hm : behindInMarks .NotIn o = false := by rfl) : IE X W (.Compare i [.NotIn] [o] pos) (mDIn true mi mo) := PE.imp (pe_cmp (pc_notInP hu hi ho) hm) fun _ _ _ h => rd_din h
theorem i_dinT (hu : X.A.units + 128 < cLine) (hi : IE X W i mi) (ho : IE X W o mo) (hm : behindInMarks .In o = false := by rfl) : IT X W (.Compare i [.In] [o] pos) (mB (mDIn false mi mo)) := PT.imp (pt_cmp (pc_inP hu hi ho) hm) fun _ _ _ h => rd_din (rd_mB h)
theorem i_dnotInT (hu : X.A.units + 128 < cLine) (hi : IE X W i mi) (ho : IE X W o mo) (hm : behindInMarks .NotIn o = false := by rfl) : IT X W (.Compare i [.NotIn] [o] pos) (mB (mDIn true mi mo)) := PT.imp (pt_cmp (pc_notInP hu hi ho) hm) fun _ _ _ h => rd_din (rd_mB h)
end
end Pi

set_option Elab.async false
set_option linter.all false
set_option maxRecDepth 100000
/-! PiDic2: dicts with tuples as keys: {}, d[k] = v; d.pop(k), len(d). -/
namespace Pi
open PySem PySem.Spec PyProof.Rows L2

theorem st_one {w : World} {K : PySem.W.Frag} {φ : List Addr} {H : Hp} {S : Store} (so : StOk w K φ H S) {p : Addr} {o : HO} {c : Cell} (hp : H p = none) (hc : CellOk w K (φ ++ [p]) (upd H p o) p c) :
    Grow φ H (φ ++ [p]) (upd H p o) ∧ StOk w K (φ ++ [p]) (upd H p o) (S ++ [c]) ∧ (φ ++ [p])[S.length]? = some p := by
  have np : p ∉ φ := so.free hp
  have sm : L2.Same H (upd H p o) := fun b o e => by rw [upd_ne (ne_of_none e hp)]; exact e
  have so1 := so.same sm
  refine ⟨⟨List.prefix_append _ _, fun b o e _ => sm b o e, fun b hb => ?_⟩, ⟨by simp [so.len], ?_, fun b hb => ?_, fun i b c' e1 e2 => ?_⟩, ?_⟩
  · rcases List.mem_append.mp hb with hb | hb
    · exact .inl hb
    · rw [List.mem_singleton.mp hb]; exact .inr hp
  · exact List.nodup_append.mpr ⟨so.nd, by simp, fun a ha b hb => by rw [List.mem_singleton.mp hb]; exact fun z => np (z ▸ ha)⟩
  · rcases List.mem_append.mp hb with hb | hb
    · exact so1.there b hb
    · rw [List.mem_singleton.mp hb]; exact ⟨_, upd_same⟩
  · by_cases hi : i < φ.length
    · rw [List.getElem?_append_left hi] at e1
      rw [List.getElem?_append_left (by rw [← so.len]; exact hi)] at e2
      exact (so1.cell i b c' e1 e2).mono (List.prefix_append _ _) (fun _ _ _ e => e) fun _ e => e
    · have hi' : i = φ.length := by
        have := (List.getElem?_eq_some_iff.mp e1).1
        simp at this; omega
      subst hi'
      rw [List.getElem?_append_right (Nat.le_refl _), Nat.sub_self] at e1
      rw [so.len, List.getElem?_append_right (Nat.le_refl _), Nat.sub_self] at e2
      simp at e1 e2
      subst e1; subst e2
      exact hc
  · rw [← so.len, List.getElem?_append_right (Nat.le_refl _), Nat.sub_self]; rfl
/-- {}, to have tuples as keys -/
def mDicH0 : EM := fun _ S => .ok (.ref S.length) (S ++ [.dih []])
def putH (S : Store) (o i v : R) : Option Store := match o with
  | .ref n => match i with
    | .d j => match S[n]? with
      | some (.dih kvs) => if (keyH j).isSome = true ∧ kvs.length < sizeLine then some (S.set n (.dih (putKv kvs j v))) else none
      | _ => none
    | _ => none
  | _ => none
/-- o[i] = v, o a dict with tuples as keys -/
def mPutH (o i v : EM) : SM := fun ρ S => (v ρ S).out ρ fun rv S1 => (o ρ S1).out ρ fun ro S2 => (i ρ S2).out ρ fun ri S3 => match putH S3 ro ri rv with
  | some S4 => .nx ρ S4
  | none => .no
def dropKv (kvs : List (D × R)) (k : D) : List (D × R) := kvs.filter fun p => !kEq p.1 k
def popD (S : Store) (r : R) (k : D) : Option (R × Store) := match r with
  | .ref n => match S[n]? with
    | some (.dic kvs) => if (keyOf k).isSome = true then (getKv kvs k).map fun v => (v, S.set n (.dic (dropKv kvs k))) else none
    | some (.dih kvs) => if (keyH k).isSome = true then (getKv kvs k).map fun v => (v, S.set n (.dih (dropKv kvs k))) else none
    | _ => none
  | .d _ => none
/-- d.pop(k), k is there -/
def mDPop (d k : EM) : EM := fun ρ S => (d ρ S).bind fun rd S1 => if isDic S1 rd = true then (k ρ S1).bind fun rk S2 => (match rdR rk with
  | some kd => match popD S2 rd kd with
    | some (v, S3) => .ok v S3
    | none => .no
  | none => .no) else .no
def lenDic (S : Store) (r : R) : Option Int := match dicAt S r with
  | some (false, kvs) => some kvs.length
  | _ => none
/-- len(d) -/
def mDLen (d : EM) : EM := fun ρ S => (d ρ S).bind fun r S1 => match lenDic S1 r with
  | some i => .ok (.d (.int i)) S1
  | none => .no
section
variable {w : World} {K : PySem.W.Frag} {φ : List Addr} {H : Hp} {S : Store}
theorem rh_put {xs : List (NestedKey × Addr × Value)} {kvs : List (D × R)} (h : RelH K φ H xs kvs) {j : D} {k : NestedKey} (e : keyH j = some k) {b : Addr} (db : Df K H (.ref b) j) {v : V} {u : Value} {r : R} (rv : RelV v u) (q : RelR K φ H v r) : RelH K φ H (storedH xs k b u) (putKv kvs j r) := by
  have hany : ∀ {xs : List (NestedKey × Addr × Value)} {kvs : List (D × R)}, RelH K φ H xs kvs → (kvs.any fun p => kEq p.1 j) = (atKey xs k).isSome := by
    intro xs kvs h
    induction h with
    | nil => rfl
    | @cons p t p' t' h _ ih =>
      unfold atKey at ih ⊢
      rw [List.any_cons, keyH_eq h.1 e, List.find?_cons]
      by_cases z : p.1 = k
      · rw [decide_eq_true z]; rfl
      · rw [decide_eq_false z]; exact ih
  have hmap : ∀ {xs : List (NestedKey × Addr × Value)} {kvs : List (D × R)}, RelH K φ H xs kvs → RelH K φ H (xs.map (putAt k u)) (kvs.map fun p => if kEq p.1 j = true then (p.1, r) else p) := by
    intro xs kvs h
    induction h with
    | nil => exact .nil
    | @cons p t p' t' h _ ih =>
      rw [List.map_cons, List.map_cons]
      refine .cons ?_ ih
      have he := keyH_eq h.1 e
      unfold putAt
      by_cases z : p.1 = k
      · have he' : kEq t.1 j = true := by rw [he]; exact decide_eq_true z
        rw [if_pos z, if_pos he']
        exact ⟨h.1, h.2.1, v, rv, q⟩
      · have he' : ¬ kEq t.1 j = true := by rw [he, decide_eq_false z]; exact Bool.false_ne_true
        rw [if_neg z, if_neg he']
        exact h
  have happ : ∀ {xs ys : List (NestedKey × Addr × Value)} {kvs kvs2 : List (D × R)}, RelH K φ H xs kvs → RelH K φ H ys kvs2 → RelH K φ H (xs ++ ys) (kvs ++ kvs2) := by
    intro xs ys kvs kvs2 h h2
    induction h with
    | nil => exact h2
    | cons h _ ih => exact .cons h ih
  unfold storedH putKv
  rw [hany h]
  split
  · exact hmap h
  · exact happ h (.cons ⟨e, db, v, rv, q⟩ .nil)
theorem rh_drop {xs : List (NestedKey × Addr × Value)} {kvs : List (D × R)} (h : RelH K φ H xs kvs) {j : D} {k : NestedKey} (e : keyH j = some k) : RelH K φ H (withoutH xs k) (dropKv kvs j) := by
  induction h with
  | nil => exact .nil
  | @cons p t p' t' h _ ih =>
    unfold withoutH dropKv at ih ⊢
    have he := keyH_eq h.1 e
    by_cases z : p.1 = k
    · rw [List.filter_cons_of_neg (by simp [z]), List.filter_cons_of_neg (by simp [he, z])]
      exact ih
    · rw [List.filter_cons_of_pos (by simp [z]), List.filter_cons_of_pos (by simp [he, z])]
      exact .cons h ih
theorem kv_drop {kv : List (L2.Key × V)} {kvs : List (D × R)} (h : RelKv K φ H kv kvs) (k : L2.Key) : RelKv K φ H (dropK kv k) (dropKv kvs (keyD k)) := by
  induction h with
  | nil => exact .nil
  | @cons p t p' t' h _ ih =>
    unfold dropK dropKv at ih ⊢
    have he := kEq_iff p.1 k
    rw [h.1] at he
    by_cases z : p.1 = k
    · rw [List.filter_cons_of_neg (by simp [z]), List.filter_cons_of_neg (by simp [he, z])]
      exact ih
    · rw [List.filter_cons_of_pos (by simp [z]), List.filter_cons_of_pos (by simp [he, z])]
      exact .cons h ih
end
section
variable {X : Cx} {W : WX} {o i e : Expr} {pos pos' apos cpos p : Pos} {td ty : TE} {mo mi me mv : EM}
def tDNewH (w : World) : TE := fun _ H Q => ∀ p, H p = none → Q (.ref p) (upd H p (DicO w p []))
theorem pe_dnewH : PE X (.Dict [] [] pos) (tDNewH X.w) := by
  constructor
  intro pins s σ H Q I h
  have hs : (s.heap.objs.size == sysModules) = false := beq_eq_false_iff_ne.mpr (Ne.symm (Nat.ne_of_lt I.big))
  refine wpAny_Dict_empty ⟨.ref s.heap.objs.size, _, I.laid (a := s.heap.objs.size) (o := DicO X.w s.heap.objs.size []) (t' := s.toks) (fun _ _ q => Heap.get?_push_of_some _ q) (Nat.le_refl _) ?_, rfl, h _ (I.hok.fresh (Nat.le_refl _))⟩
  exact dicO_ok (P := X.prog) (Nat.zero_le _) hs (Heap.DictOfH.new s.heap)
theorem i_dicH0 : IE X W (.Dict [] [] pos) mDicH0 := PE.imp pe_dnewH fun σ H Q h p hp => by
  obtain ⟨φ, ρ, S, eo, so, h⟩ := h
  obtain ⟨g, so', e⟩ := st_one so (c := .dih []) hp ⟨[], upd_same, .nil⟩
  exact h _ _ g so' _ ⟨p, e, rfl⟩
theorem is_putH (hu : X.A.units + 128 < cLine) (hv : IE X W e mv) (ho : IE X W o mo) (hi : IE X W i mi)
    (ha : ∀ v, assign (.Subscript o i pos') X.env v = (do
      let ov ← holding [v] (eval o X.env)
      let iv ← holding [v, ov] (eval i X.env)
      standAt pos'
      holding [v, ov, iv] (setItem ov iv v)
      release [v, ov, iv] []) := by intros; rfl)
    (hs : swapsWithSole [.Subscript o i pos'] e pos.line X.env = pure false := by rfl) (hw : swappedStores [.Subscript o i pos'] e X.env = pure none := by rfl) (h1 : (assignEach [.Subscript o i pos'] X.env).map (·.2) = [assign (.Subscript o i pos') X.env] := by rfl) :
    IS X W (.Assign [.Subscript o i pos'] e pos) (mPutH mo mi mv) := PS.imp (ps_asg hv (pg_sub ho hi (set_dih hu) ha) hs hw h1) fun D σ H h => by
  obtain ⟨φ, ρ, S, eo, so, h⟩ := h
  refine ⟨φ, ρ, S, eo, so, (EndS.out eo h).imp fun rv φ1 S1 H1 _ g1 so1 h1 v q1 => ?_⟩
  refine ⟨φ1, ρ, S1, eo.grow g1, so1, (EndS.out (eo.grow g1) h1).imp fun ro φ2 S2 H2 _ g2 so2 h2 ov q2 => ?_⟩
  refine ⟨φ2, ρ, S2, (eo.grow g1).grow g2, so2, (EndS.out ((eo.grow g1).grow g2) h2).imp fun ri φ3 S3 H3 _ g3 so3 h3 iv q3 => ?_⟩
  split at h3
  · rename_i S4 e4
    unfold putH at e4
    cases ro with
    | d _ => cases e4
    | ref n =>
      cases ri with
      | ref _ => cases e4
      | d j =>
        simp only at e4
        split at e4
        · rename_i kvs es
          split at e4
          · rename_i hc
            cases e4
            obtain ⟨hk, hl⟩ := hc
            obtain ⟨k, ek⟩ := Option.isSome_iff_exists.mp hk
            obtain ⟨a, ha3, rfl⟩ := q2.grow g3
            obtain ⟨xs, z1, z2⟩ := so3.cell n a _ ha3 es
            obtain ⟨_, _, ds, rfl⟩ := keyH_to ek
            obtain ⟨b, vs, rfl, hs', df⟩ := Df.tup_at q3
            refine ⟨a, b, xs, k, rfl, rfl, z1, rh_xs z2, ⟨_, ek, .tup hs' df⟩, by rw [rh_len z2]; exact hl, fun u ru => ?_⟩
            have st := upd_stab (u := DicO X.w a (storedH xs k b u)) z1 rfl
            have eh := cell_upd (c := .dih (putKv kvs (.tuple ds) rv)) (u := DicO X.w a (storedH xs k b u)) so3 ha3 z1 rfl ⟨_, upd_same, rh_put (RelH.mono (List.prefix_refl _) st z2) ek (Df.mono st (.tup hs' df)) ru (RelR.mono (List.prefix_refl _) st ((q1.grow g2).grow g3))⟩
            exact EndS.now eh.2 ((((eo.grow g1).grow g2).grow g3).grow eh.1) (EndS.later eh.1 h3)
          · cases e4
        · cases e4
  · exact h3.elim
/-! pop -/
def rPop (w : World) (K : PySem.W.Frag) (H : Hp) (a : Addr) (y : V) (Q : VK) : Prop :=
  (∃ kvs k v, H a = some (.dK kvs) ∧ y = kV k ∧ valV kvs k = some v ∧ Q v (upd H a (.dK (dropK kvs k)))) ∨
  ∃ xs k b v, H a = some (DicO w a xs) ∧ XsAt K H xs ∧ y = .ref b ∧ KeyAt K H b k ∧ RelO (some v) ((atKey xs k).map (·.2)) ∧ Q v (upd H a (DicO w a (withoutH xs k)))
def tPopP (w : World) (K : PySem.W.Frag) (td ty : TE) : TE := fun σ H Q => td σ H fun x H1 => ∃ a, x = .ref a ∧ IsDP w K H1 a ∧ ty σ H1 fun y H2 => rPop w K H2 a y Q
theorem pe_popP (hu : X.A.units + 128 < cLine) (ho : PE X o td) (he : PE X e ty) (m : M1 X o "pop" apos e cpos) : PE X (.Call (.Attribute o "pop" apos) [e] [] cpos) (tPopP X.w X.K td ty) := by
  constructor
  intro pins s σ H Q I h
  refine wpAny_Call_method m.base m.few m.line PySem.F.plainAttrs_dict PySem.F.slot_dict_pop PySem.F.type_dict_pop (thn (ho.run pins s σ H _ I h) ?_)
  rintro u s1 ⟨x, H1, I1, rx, a, ex, d, q1⟩
  subst ex
  obtain rfl : u = Value.ref a := rx
  obtain ⟨t1, t2, _⟩ := isDP_at I1 d
  refine ⟨t1, t2, ?_⟩
  rw [m.trees]
  refine Calls.callWith_builtin rfl (Calls.evalArgs_plain (Calls.spliced_cons (thn (he.run pins s1 σ H1 _ I1 q1) ?_)))
  rintro iv s2 ⟨y, H2, I2, ry, q2⟩
  refine Calls.spliced_nil ?_
  rcases q2 with ⟨kvs, k, v, ea, ey, l, q3⟩ | ⟨xs, k, b, v, ea, hk, ey, kb, l, q3⟩
  · subst ey
    exact d_pop I2 ea ry l (.inl rfl) fun w' s3 I3 rw' => ⟨v, _, I3, rw', q3⟩
  · subst ey
    cases (show iv = Value.ref b from ry)
    obtain ⟨hz, hs, dd⟩ := dih_of I2 (.inl ea) hk
    obtain ⟨u', e1, e2⟩ := relO_some l
    cases q : atKey xs k with
    | none => rw [q] at e1; cases e1
    | some pq =>
      rw [q] at e1; cases e1
      refine call_pop_heap (knd := nestedKind X.prog X.w) (.inl rfl) (PySem.F.args_dict_pop_2 _ _) (room_of hu _ _) (kb.is I2) hs dd q (fun h' d' sb => ?_) hz
      exact ⟨v, _, dih_write I2 ea sb d' (Nat.le_trans (withoutH_length xs k) hz) hs, e2, q3⟩
theorem i_dpop (hu : X.A.units + 128 < cLine) (ho : IE X W o mo) (he : IE X W e me) (m : M1 X o "pop" apos e cpos := by exact ⟨rfl, rfl, rfl, rfl⟩) : IE X W (.Call (.Attribute o "pop" apos) [e] [] cpos) (mDPop mo me) := PE.imp (pe_popP hu ho he m) fun σ H Q h => by
  obtain ⟨φ, ρ, S, eo, so, h⟩ := h
  refine ⟨φ, ρ, S, eo, so, (EndR.bind h).imp fun rd φ1 S1 H1 _ g1 so1 h1 x q1 => ?_⟩
  split at h1
  · rename_i hd
    obtain ⟨a, rfl, isd⟩ := isdic_cell so1 q1 hd
    refine ⟨a, rfl, isd, φ1, ρ, S1, eo.grow g1, so1, (EndR.bind h1).imp fun rk φ2 S2 H2 _ g2 so2 h2 y q2 => ?_⟩
    split at h2
    · rename_i kd ek
      have qk := q2.plain ek
      split at h2
      · rename_i v S3 ep
        unfold popD at ep
        cases rd with
        | d _ => cases ep
        | ref n =>
          simp only at ep
          obtain ⟨a', ha', ea⟩ := q1.grow g2
          cases ea
          split at ep
          · rename_i kvs es
            split at ep
            · rename_i hk
              obtain ⟨k, ejk⟩ := Option.isSome_iff_exists.mp hk
              obtain ⟨kv, z1, z2⟩ := so2.cell n a _ ha' es
              have hg := kv_get z2 k
              rw [keyD_of ejk] at hg
              cases eg : getKv kvs kd with
              | none => rw [eg] at ep; cases ep
              | some r =>
                rw [eg] at ep hg; cases ep
                obtain ⟨v', l, rv⟩ := hg
                have st := upd_stab (u := .dK (dropK kv k)) z1 rfl
                have hdr := kv_drop (RelKv.mono (List.prefix_refl _) st z2) k
                rw [keyD_of ejk] at hdr
                have eh := cell_upd (c := .dic (dropKv kvs kd)) (u := .dK (dropK kv k)) so2 ha' z1 rfl ⟨_, upd_same, hdr⟩
                exact .inl ⟨kv, k, v', z1, dn_key (.of qk) ejk, l, h2 φ2 _ eh.1 eh.2 _ (rv.grow eh.1)⟩
            · cases ep
          · rename_i kvs es
            split at ep
            · rename_i hk
              obtain ⟨k, ejk⟩ := Option.isSome_iff_exists.mp hk
              obtain ⟨xs, z1, z2⟩ := so2.cell n a _ ha' es
              have hg := rh_get z2 ejk
              cases eg : getKv kvs kd with
              | none => rw [eg] at ep; cases ep
              | some r =>
                rw [eg] at ep hg; cases ep
                obtain ⟨v', l, rv⟩ := hg
                obtain ⟨_, _, ds, rfl⟩ := keyH_to ejk
                obtain ⟨b, vs, rfl, hs', df⟩ := qk.tup_at
                have st := upd_stab (u := DicO X.w a (withoutH xs k)) z1 rfl
                have eh := cell_upd (c := .dih (dropKv kvs (.tuple ds))) (u := DicO X.w a (withoutH xs k)) so2 ha' z1 rfl ⟨_, upd_same, rh_drop (RelH.mono (List.prefix_refl _) st z2) ejk⟩
                exact .inr ⟨xs, k, b, v', z1, rh_xs z2, rfl, ⟨_, ejk, .tup hs' df⟩, l, h2 φ2 _ eh.1 eh.2 _ (rv.grow eh.1)⟩
            · cases ep
          · cases ep
      · exact h2.elim
    · exact h2.elim
  · exact h1.elim
theorem rd_dlen {w : World} {K : PySem.W.Frag} {mg : Str → Option Value} {σ : L2.St} {H : Hp} {Q : VK} (h : rdE w K mg W (mDLen mo) σ H Q) : rdE w K mg W mo σ H fun x H1 => ∃ a kvs, x = .ref a ∧ Rd H1 a (.dK kvs) ∧ Q (.int kvs.length) H1 := by
  obtain ⟨φ, ρ, S, eo, so, h⟩ := h
  refine ⟨φ, ρ, S, eo, so, (EndR.bind h).imp fun r φ1 S1 H1 _ g1 so1 h1 v r1 => ?_⟩
  split at h1
  · rename_i i ei
    unfold lenDic at ei
    split at ei
    · rename_i kvs ed
      cases ei
      unfold dicAt at ed
      cases r with
      | d _ => cases ed
      | ref n =>
        obtain ⟨a, ha, rfl⟩ := r1
        cases es : S1[n]? with
        | none => simp [es] at ed
        | some c =>
          simp only [es] at ed
          cases c with
          | dic k2 =>
            obtain ⟨kv, z1, z2⟩ := so1.cell n a _ ha es
            cases ed
            refine ⟨a, kv, rfl, .inl z1, ?_⟩
            rw [kv_len z2]
            exact h1.now so1 _ (.int _)
          | lck k2 =>
            obtain ⟨oo, kv, z1, z2⟩ := so1.cell n a _ ha es
            cases ed
            refine ⟨a, kv, rfl, .inr ⟨oo, z1⟩, ?_⟩
            rw [kv_len z2]
            exact h1.now so1 _ (.int _)
          | _ => cases ed
    · cases ei
  · exact h1.elim
end
end Pi

set_option Elab.async false
set_option linter.all false
set_option maxRecDepth 100000
/-! PiDic3: what walks over a dict (locked meanwhile): keys, items. -/
namespace Pi
open PySem PySem.Spec PyProof.Rows L2

/-- the dict at a is no longer locked -/
structure Thaw (a : Addr) (H H' : Hp) : Prop where
  was : ∃ o u, H a = some (.frz o u) ∧ (∀ xs, u ≠ .lst xs) ∧ ∀ xs, u ≠ .tup xs
  keep : ∀ c o, c ≠ a → H c = some o → H' c = some o
section
variable {w : World} {K : PySem.W.Frag} {φ : List Addr} {a : Addr} {H H' : Hp}
theorem Thaw.fzL (t : Thaw a H H') {b : Addr} {xs : List V} (h : FzL K H b xs) : FzL K H' b xs := by
  rcases h with ⟨o, h⟩ | h
  · refine .inl ⟨o, t.keep b _ (fun z => ?_) h⟩
    obtain ⟨o', u, e, n, _⟩ := t.was
    rw [z, e] at h; cases h
    exact n _ rfl
  · exact .inr h
theorem Thaw.sqT (t : Thaw a H H') {b : Addr} {xs : List V} (h : SqT K H b xs) : SqT K H' b xs := by
  obtain ⟨o', u, e, _, n⟩ := t.was
  rcases h with (h | ⟨o, h⟩) | h
  · exact .inl (.inl (t.keep b _ (fun z => by rw [z, e] at h; cases h) h))
  · exact .inl (.inr ⟨o, t.keep b _ (fun z => by rw [z, e] at h; cases h; exact n _ rfl) h⟩)
  · exact .inr h
theorem Thaw.fzT (t : Thaw a H H') {b : Addr} {xs : List V} (h : FzT H b xs) : FzT H' b xs := by
  obtain ⟨o', u, e, _, n⟩ := t.was
  obtain ⟨o, h, hd⟩ := h
  exact ⟨o, t.keep b _ (fun z => by rw [z, e] at h; cases h; exact n _ rfl) h, hd⟩
mutual
theorem Df.thaw (t : Thaw a H H') : ∀ {v : V} {d : PyData}, Df K H v d → Df K H' v d
  | _, _, .non => .non
  | _, _, .bl b => .bl b
  | _, _, .int i => .int i
  | _, _, .str x => .str x
  | _, _, .lst h q => .lst (t.fzL h) (DfAll.thaw t q)
  | _, _, .tup h q => .tup (t.fzT h) (DfAll.thaw t q)
theorem DfAll.thaw (t : Thaw a H H') : ∀ {vs : List V} {ds : List PyData}, DfAll K H vs ds → DfAll K H' vs ds
  | _, _, .nil => .nil
  | _, _, .cons h q => .cons (Df.thaw t h) (DfAll.thaw t q)
end
theorem RelR.thaw (t : Thaw a H H') {v : V} {r : R} (h : RelR K φ H v r) : RelR K φ H' v r := by
  cases r with
  | d x => exact Df.thaw t h
  | ref i => exact h
theorem kv_thaw (t : Thaw a H H') : ∀ {kv : List (L2.Key × V)} {kvs : List (D × R)}, RelKv K φ H kv kvs → RelKv K φ H' kv kvs
  | _, _, .nil => .nil
  | _, _, .cons h q => .cons ⟨h.1, RelR.thaw t h.2⟩ (kv_thaw t q)
theorem rh_thaw (t : Thaw a H H') : ∀ {kv : List (NestedKey × Addr × Value)} {kvs : List (D × R)}, RelH K φ H kv kvs → RelH K φ H' kv kvs
  | _, _, .nil => .nil
  | _, _, .cons h q => .cons ⟨h.1, Df.thaw t h.2.1, let ⟨v, q1, q2⟩ := h.2.2; ⟨v, q1, RelR.thaw t q2⟩⟩ (rh_thaw t q)
theorem fs_thaw (t : Thaw a H H') : ∀ {kv : List (Str × V)} {kvs : List (Str × R)}, RelFs K φ H kv kvs → RelFs K φ H' kv kvs
  | _, _, .nil => .nil
  | _, _, .cons h q => .cons ⟨h.1, RelR.thaw t h.2⟩ (fs_thaw t q)
theorem CellOk.thaw (t : Thaw a H H') {b : Addr} (hb : b ≠ a) {c : Cell} (h : CellOk w K φ H b c) : CellOk w K φ H' b c := by
  cases c with
  | lst xs => obtain ⟨vs, q1, q2⟩ := h; exact ⟨vs, t.keep _ _ hb q1, DfAll.thaw t q2⟩
  | dic kvs => obtain ⟨kv, q1, q2⟩ := h; exact ⟨kv, t.keep _ _ hb q1, kv_thaw t q2⟩
  | dih kvs => obtain ⟨xs, q1, q2⟩ := h; exact ⟨xs, t.keep _ _ hb q1, rh_thaw t q2⟩
  | lck kvs => obtain ⟨o, kv, q1, q2⟩ := h; exact ⟨o, kv, t.keep _ _ hb q1, kv_thaw t q2⟩
  | lch kvs => obtain ⟨o, xs, q1, q2⟩ := h; exact ⟨o, xs, t.keep _ _ hb q1, rh_thaw t q2⟩
  | obj c fs => obtain ⟨dx, fv, q1, q2⟩ := h; exact ⟨dx, fv, t.keep _ _ hb q1, fs_thaw t q2⟩
  | gone => exact trivial
end
def lockS (S : Store) (n : Nat) : Option Store := match S[n]? with
  | some (.dic kvs) => some (S.set n (.lck kvs))
  | some (.dih kvs) => some (S.set n (.lch kvs))
  | _ => none
def unlockS (S : Store) (n : Nat) : Option Store := match S[n]? with
  | some (.lck kvs) => some (S.set n (.dic kvs))
  | some (.lch kvs) => some (S.set n (.dih kvs))
  | _ => none
/-- l, while the dict that d finds is locked -/
def mLockL (d : EM) (l : IM) : IM := fun ρ S => match d ρ S with
  | .ok (.ref n) _ => match lockS S n with
    | some S1 => match noEx (l ρ S1) with
      | .ok ys S2 => match unlockS S2 n with
        | some S3 => .ok ys S3
        | none => .no
      | _ => .no
    | none => .no
  | _ => .no
section
variable {w : World} {K : PySem.W.Frag} {mg : Str → Option Value} {W : WX} {φ : List Addr} {H : Hp} {S : Store}
theorem thaw_st {φ' : List Addr} {H' : Hp} {S2 S3 : Store} {n : Nat} {a : Addr} {od : Obj} {u : HO} (so : StOk w K φ H S) (ha : φ[n]? = some a) (hu : H a = some u) (hl : (∀ xs, u ≠ .lst xs) ∧ (∀ xs, u ≠ .tup xs) ∧ stable u = false) (hcase : (∃ kv, u = .dK kv) ∨ ∃ xs, u = DicO w a xs)
    (g : Grow φ (upd H a (.frz od u)) φ' H') (so' : StOk w K φ' H' S2) (e : unlockS S2 n = some S3) : H' a = some (.frz od u) ∧ Grow φ H φ' (upd H' a u) ∧ StOk w K φ' (upd H' a u) S3 ∧ Thaw a H' (upd H' a u) := by
  have hm : a ∈ φ := List.mem_of_getElem? ha
  have e1 : H' a = some (.frz od u) := g.keep a _ upd_same (.inl rfl)
  have th : Thaw a H' (upd H' a u) := ⟨⟨od, u, e1, hl.1, hl.2.1⟩, fun c o hc ec => by rw [upd_ne hc]; exact ec⟩
  have ha' := g.at_ ha
  refine ⟨e1, ⟨g.pre, fun b o eb q => ?_, fun c hc => ?_⟩, ?_, th⟩
  · have hne : b ≠ a := fun z => by
      subst z
      rw [hu] at eb; cases eb
      rcases q with q | q
      · rw [hl.2.2] at q; cases q
      · exact q hm
    rw [upd_ne hne]
    exact g.keep b o (by rw [upd_ne hne]; exact eb) q
  · rcases g.new c hc with z | z
    · exact .inl z
    · by_cases hc2 : c = a
      · rw [hc2]; exact .inl hm
      · rw [upd_ne hc2] at z; exact .inr z
  · have hn : n < S2.length := by rw [← so'.len]; exact (List.getElem?_eq_some_iff.mp ha').1
    have hlen : S3.length = S2.length := by
      unfold unlockS at e
      split at e <;> cases e <;> simp
    refine ⟨by rw [hlen]; exact so'.len, so'.nd, fun b hb => ?_, fun i b c f1 f2 => ?_⟩
    · by_cases hb2 : b = a
      · rw [hb2]; exact ⟨_, upd_same⟩
      · obtain ⟨o', e'⟩ := so'.there b hb
        exact ⟨o', by rw [upd_ne hb2]; exact e'⟩
    · by_cases hi : n = i
      · subst hi
        rw [ha'] at f1; cases f1
        unfold unlockS at e
        split at e
        · rename_i kvs es
          cases e
          rw [List.getElem?_set_self hn] at f2; cases f2
          obtain ⟨o2, kv2, z1, z2⟩ := so'.cell n a _ ha' es
          rw [e1] at z1; cases z1
          exact ⟨kv2, upd_same, kv_thaw th z2⟩
        · rename_i kvs es
          cases e
          rw [List.getElem?_set_self hn] at f2; cases f2
          obtain ⟨o2, xs2, z1, z2⟩ := so'.cell n a _ ha' es
          rw [e1] at z1
          have z3 : u = DicO w a xs2 := by injection z1 with z1; injection z1
          exact ⟨xs2, by rw [upd_same, z3], rh_thaw th z2⟩
        · cases e
      · have f2' : S2[i]? = some c := by
          unfold unlockS at e
          split at e <;> cases e <;> (rw [List.getElem?_set_ne hi] at f2; exact f2)
        have hne : b ≠ a := fun z => by
          subst z
          obtain ⟨l1, g1⟩ := List.getElem?_eq_some_iff.mp ha'
          obtain ⟨l2, g2⟩ := List.getElem?_eq_some_iff.mp f1
          exact hi ((List.getElem_inj so'.nd).mp (g1.trans g2.symm))
        exact (so'.cell i b c f1 f2').thaw th hne
theorem lock_st {S1 : Store} {n : Nat} (so : StOk w K φ H S) (e : lockS S n = some S1) : ∃ a u, φ[n]? = some a ∧ H a = some u ∧ Mut (some u) ∧ ((∀ xs, u ≠ .lst xs) ∧ (∀ xs, u ≠ .tup xs) ∧ stable u = false) ∧ ((∃ kv, u = .dK kv) ∨ ∃ xs, u = DicO w a xs) ∧ ∀ od, Grow φ H φ (upd H a (.frz od u)) ∧ StOk w K φ (upd H a (.frz od u)) S1 := by
  unfold lockS at e
  split at e
  · rename_i kvs es
    cases e
    have hn : n < φ.length := by rw [so.len]; exact (List.getElem?_eq_some_iff.mp es).1
    have ha : φ[n]? = some φ[n] := List.getElem?_eq_getElem hn
    obtain ⟨kv, z1, z2⟩ := so.cell n _ _ ha es
    refine ⟨φ[n], .dK kv, ha, z1, True.intro, ⟨(fun xs z => by cases z), (fun xs z => by cases z), rfl⟩, .inl ⟨kv, rfl⟩, fun od => ?_⟩
    have st := upd_stab (u := .frz od (.dK kv)) z1 rfl
    exact cell_upd (c := .lck kvs) (u := .frz od (.dK kv)) so ha z1 rfl ⟨od, kv, upd_same, RelKv.mono (List.prefix_refl _) st z2⟩
  · rename_i kvs es
    cases e
    have hn : n < φ.length := by rw [so.len]; exact (List.getElem?_eq_some_iff.mp es).1
    have ha : φ[n]? = some φ[n] := List.getElem?_eq_getElem hn
    obtain ⟨xs, z1, z2⟩ := so.cell n _ _ ha es
    refine ⟨φ[n], DicO w φ[n] xs, ha, z1, True.intro, ⟨(fun xs z => by cases z), (fun xs z => by cases z), rfl⟩, .inr ⟨xs, rfl⟩, fun od => ?_⟩
    have st := upd_stab (u := .frz od (DicO w φ[n] xs)) z1 rfl
    exact cell_upd (c := .lch kvs) (u := .frz od (DicO w φ[n] xs)) so ha z1 rfl ⟨od, xs, upd_same, RelH.mono (List.prefix_refl _) st z2⟩
  · cases e
theorem rd_lock {d : EM} {l : IM} {σ : L2.St} {Q : VK} (h : rdN w K mg W (mLockL d l) σ H Q) : ∃ a u, H a = some u ∧ Mut (some u) ∧ ∀ od, rdN w K mg W l σ (upd H a (.frz od u)) fun v H' => H' a = some (.frz od u) ∧ Q v (upd H' a u) := by
  obtain ⟨φ, ρ, S, eo, so, h⟩ := h
  unfold mLockL at h
  split at h
  · rename_i n S0 ed
    split at h
    · rename_i S1 el
      split at h
      · rename_i ys S2 e2
        split at h
        · rename_i S3 e3
          obtain ⟨a, u, ha, hu, mu, hl, hc, k⟩ := lock_st so el
          refine ⟨a, u, hu, mu, fun od => ?_⟩
          obtain ⟨g1, so1⟩ := k od
          refine ⟨φ, ρ, S1, eo.grow g1, so1, EndR.ofOk (noEx_ok e2) fun φ' H' g so' p vs hp np ep df => ?_⟩
          obtain ⟨e1, gg, so3, th⟩ := thaw_st so ha hu hl hc g so' e3
          have hpa : p ≠ a := fun z => by rw [z, upd_same] at hp; cases hp
          exact ⟨e1, h φ' _ gg so3 p vs (by rw [upd_ne hpa] at hp; exact hp) np (by rw [upd_ne hpa]; exact ep) (DfAll.thaw th df)⟩
        · exact h.elim
      · exact h.elim
    · exact h.elim
  · exact h.elim
end
section
variable {X : Cx} {W : WX} {e : Expr} {l : IM}
theorem i_lockL (d : EM) (h : IN X W e l) : IN X W e (mLockL d l) := PE.imp (pe_lock h) fun σ H Q h => rd_lock h
theorem is_lockL (d : EM) {st : Stmt} {i : Nat} (h : PS X st (tAsg (rdN X.w X.K X.mg W l) (gName i))) : PS X st (tAsg (rdN X.w X.K X.mg W (mLockL d l)) (gName i)) := PS.imp (ps_lock h) fun D σ H h => rd_lock h
end
/-! ### the items walked -/
def dkItems (items : Bool) (kvs : List (D × R)) : Option (List D) := if items then pairsR kvs else some (kvs.map (·.1))
/-- the keys, the items of a locked dict -/
def mItDK (items : Bool) (d : EM) : IM := fun ρ S => (d ρ S).bind fun r S1 => match r with
  | .ref n => match S1[n]? with
    | some (.lck kvs) => Res.opt (dkItems items kvs) S1
    | _ => .no
  | .d _ => .no
section
variable {K : PySem.W.Frag} {φ : List Addr} {H0 : Hp}
theorem rk_get {kv : List (L2.Key × V)} {kvs : List (D × R)} (h : RelKv K φ H0 kv kvs) {i : Nat} {q : D × R} (e : kvs[i]? = some q) : ∃ p, kv[i]? = some p ∧ keyD p.1 = q.1 ∧ RelR K φ H0 p.2 q.2 := by
  induction h generalizing i with
  | nil => simp at e
  | @cons p t p' t' h _ ih =>
    cases i with
    | zero => simp at e; subst e; exact ⟨_, rfl, h⟩
    | succ i =>
      obtain ⟨p, e1, e2⟩ := ih (i := i) (by simpa using e)
      exact ⟨p, by simpa using e1, e2⟩
theorem df_kV {H : Hp} (k : L2.Key) : Df K H (kV k) (keyD k) := by
  cases k
  · exact .int _
  · exact .str _
theorem it_k {a : Addr} {o : Obj} {kv : List (L2.Key × V)} {kvs : List (D × R)} (ha : H0 a = some (.frz o (.dK kv))) (h : RelKv K φ H0 kv kvs) : ItOk true K H0 (kvs.map (·.1)) (Itk a o kv) := fun H i st => by
  have hh := st a _ rfl ha
  refine ⟨fun d e => ?_, fun hi => ⟨hh, by rw [List.length_map] at hi; rw [kv_len h]; exact hi⟩⟩
  rw [List.getElem?_map] at e
  obtain ⟨q, e1, rfl⟩ := Option.map_eq_some_iff.mp e
  obtain ⟨p, e2, e3, _⟩ := rk_get h e1
  refine ⟨⟨hh, (List.getElem?_eq_some_iff.mp e2).1⟩, fun x H' y => ?_⟩
  obtain ⟨rfl, k, v, f1, rfl⟩ := y
  rw [e2] at f1; cases f1
  exact ⟨L2.Same.refl _, by rw [← e3]; exact df_kV _⟩
theorem pairsR_get : ∀ {kvs : List (D × R)} {ps : List D} {i : Nat} {d : D}, pairsR kvs = some ps → ps[i]? = some d → ∃ k v, kvs[i]? = some (k, .d v) ∧ d = .tuple [k, v]
  | [], ps, i, d, e, h => by cases e; simp at h
  | (k, .d v) :: t, ps, i, d, e, h => by
    unfold pairsR at e
    split at e
    · rename_i r er
      cases e
      cases i with
      | zero => simp at h; exact ⟨k, v, rfl, h.symm⟩
      | succ i =>
        obtain ⟨k', v', e1, e2⟩ := pairsR_get (kvs := t) (i := i) (d := d) er (by simpa using h)
        exact ⟨k', v', by simpa using e1, e2⟩
    · cases e
  | (k, .ref _) :: t, ps, i, d, e, h => by cases e
theorem pairsR_len : ∀ {kvs : List (D × R)} {ps : List D}, pairsR kvs = some ps → ps.length = kvs.length
  | [], ps, e => by cases e; rfl
  | (k, .d v) :: t, ps, e => by
    unfold pairsR at e
    split at e
    · rename_i r er
      cases e
      rw [List.length_cons, List.length_cons, pairsR_len er]
    · cases e
  | (k, .ref _) :: t, ps, e => by cases e
theorem it_i {a : Addr} {o : Obj} {kv : List (L2.Key × V)} {kvs : List (D × R)} {ps : List D} (ha : H0 a = some (.frz o (.dK kv))) (h : RelKv K φ H0 kv kvs) (ep : pairsR kvs = some ps) : ItOk false K H0 ps (Iti a o kv) := fun H i st => by
  have hh := st a _ rfl ha
  refine ⟨fun d e => ?_, fun hi => ⟨hh, by rw [pairsR_len ep] at hi; rw [kv_len h]; exact hi⟩⟩
  obtain ⟨k, v, e1, rfl⟩ := pairsR_get ep e
  obtain ⟨p, e2, e3, e4⟩ := rk_get h e1
  refine ⟨⟨hh, (List.getElem?_eq_some_iff.mp e2).1⟩, fun x H' y => ?_⟩
  obtain ⟨T, k', v', f1, rfl, hT, rfl⟩ := y
  rw [e2] at f1; cases f1
  have e3' : keyD k' = k := e3
  rw [← e3']
  exact pair_tup hT (df_kV _) (Df.mono st e4)
end
section
variable {X : Cx} {W : WX} {tg e : Expr} {m : EM} {apos cpos : Pos}
theorem rd_itDK {w : World} {K : PySem.W.Frag} {mg : Str → Option Value} {items : Bool} {σ : L2.St} {H : Hp} {R : It → Hp → Prop} (h : rdI (!items) w K mg W (mItDK items m) σ H R) :
    rdE w K mg W m σ H fun x H1 => ∃ a o kv, x = .ref a ∧ H1 a = some (.frz o (.dK kv)) ∧ R (if items then Iti a o kv else Itk a o kv) H1 := by
  obtain ⟨φ, ρ, S, eo, so, h⟩ := h
  refine ⟨φ, ρ, S, eo, so, (EndR.bind h).imp fun r φ1 S1 H1 _ g1 so1 h1 v r1 => ?_⟩
  cases r with
  | d _ => exact h1.elim
  | ref n =>
    simp only at h1
    split at h1
    · rename_i kvs es
      obtain ⟨a, ha, rfl⟩ := r1
      obtain ⟨o, kv, z1, z2⟩ := so1.cell n a _ ha es
      refine ⟨a, o, kv, rfl, z1, ?_⟩
      unfold Res.opt at h1
      split at h1
      · rename_i ds ed
        have h2 := h1.now so1
        unfold dkItems at ed
        cases items with
        | true =>
          rw [if_pos rfl] at ed ⊢
          exact h2 _ _ (L2.Same.refl _) (it_i z1 z2 ed)
        | false =>
          rw [if_neg Bool.false_ne_true] at ed ⊢
          cases ed
          exact h2 _ _ (L2.Same.refl _) (it_k z1 z2)
      · exact h1.elim
    · exact h1.elim
theorem i_itDK (h : IE X W e m) : II X tg W e (mItDK false m) := PI.imp (pi_keys h) fun σ H R h => rdE.imp (rd_itDK h) fun x H1 ⟨a, o, kv, e1, e2, e3⟩ => ⟨a, o, e1, .inl ⟨kv, e2, e3⟩⟩
theorem i_itDI {elts : List Expr} {kk : Nat} {tpos : Pos} (h : IE X W e m) (hbase : attributeBase e "items" X.env (eval e X.env) = eval e X.env := by rfl) (hline : (apos.endLine == cpos.line) = true := by rfl) :
    IIw X (.Tuple elts kk tpos) W (.Call (.Attribute e "items" apos) [] [] cpos) (mItDK true m) := PI.imp (pi_items h hbase hline) fun σ H R h => rdE.imp (rd_itDK h) fun x H1 ⟨a, o, kv, e1, e2, e3⟩ => ⟨a, o, kv, e1, e2, e3⟩
/-! len -/
theorem cr_dlen : CallR X (.builtin "len") (fun xs H Q => ∃ a kvs, xs = [V.ref a] ∧ Rd H a (.dK kvs) ∧ Q (.int kvs.length) H) := by
  intro pins s σ H xs us Q I r h
  obtain ⟨a, kvs, rfl, e, q⟩ := h
  rw [Vals.ref1 r]
  exact d_len I e fun t s' I' => ⟨.int _, H, I', ⟨t, rfl⟩, q⟩
theorem i_dlen {p pos : Pos} (hm : X.mg "len" = none) (h : IE X W e m) (hg : Gl X "len" := by rfl) (he : starEach [e] X.env = (false, eval e X.env) :: starEach [] X.env := by rfl) (hpl : (backTo pos (starEach [] X.env)).any (·.1) = false := by rfl) :
    IE X W (.Call (.Name "len" p) [e] [] pos) (mDLen m) := PE.imp (pe_callB cr_dlen hg hm boot_len (pa_cons h pa_nil he) (by decide) (by decide) he hpl) fun σ H Q h => rdE.imp (rd_dlen h) fun x H1 ⟨a, kvs, e1, e2, e3⟩ => ⟨a, kvs, by rw [e1], e2, e3⟩
end
end Pi

set_option Elab.async false
set_option linter.all false
set_option maxRecDepth 100000
/-! PiDic4: sorted(d.items()) of a dict with tuples as keys. -/
namespace Pi
open PySem PySem.Spec PyProof.Rows L2 L2.DX

/-- pairs, each a tuple at its address -/
def putP : Hp → List Addr → List (V × V) → Hp
  | H, a :: as, p :: ps => putP (upd H a (.tup [p.1, p.2])) as ps
  | H, _, _ => H
theorem putP_off {b : Addr} : ∀ (as : List Addr) (ps : List (V × V)) (H : Hp), b ∉ as → putP H as ps b = H b
  | [], _, _, _ => rfl
  | _ :: _, [], _, _ => rfl
  | a :: as, p :: ps, H, h => by
    show putP (upd H a (.tup [p.1, p.2])) as ps b = H b
    rw [putP_off as ps _ fun z => h (List.mem_cons_of_mem _ z)]
    exact upd_ne fun z => h (by rw [z]; exact List.mem_cons_self)
theorem putP_at : ∀ (as : List Addr) (ps : List (V × V)) (H : Hp), as.length = ps.length → as.Nodup → Paired (fun (t : Addr) (p : V × V) => putP H as ps t = some (.tup [p.1, p.2])) as ps
  | [], [], _, _, _ => .nil
  | [], _ :: _, _, h, _ => by cases h
  | _ :: _, [], _, h, _ => by cases h
  | a :: as, p :: ps, H, h, hn => by
    obtain ⟨h1, h2⟩ := List.nodup_cons.mp hn
    refine .cons ?_ (putP_at as ps (upd H a (.tup [p.1, p.2])) (Nat.succ.inj h) h2)
    show putP (upd H a (.tup [p.1, p.2])) as ps a = _
    rw [putP_off as ps _ h1, upd_same]
theorem pairs_each2 {K : PySem.W.Frag} {H1 : Hp} (all : List Addr) : ∀ {pv : List (V × V)} {ps : List D} {as : List Addr}, Paired (fun (q : V × V) (d : D) => ∃ d1 d2, d = .tuple [d1, d2] ∧ Df K H1 q.1 d1 ∧ Df K H1 q.2 d2) pv ps → (∀ b ∈ as, b ∈ all) →
    Paired (fun (t : Addr) (p : V × V) => FzT H1 t [p.1, p.2]) as pv → PySem.W.EachIs (IsPr K H1 all) (as.map Value.ref) ps
  | _, _, [], .nil, _, _ => .nil
  | _, _, _ :: _, .nil, _, g => by cases g
  | _, _, [], .cons _ _, _, g => by cases g
  | _, _, b :: as, .cons h t, hm, g => by
    obtain ⟨d1, d2, rfl, q1, q2⟩ := h
    cases g with
    | cons g1 g2 => exact .cons ⟨b, rfl, hm b List.mem_cons_self, .tup g1 (.cons q1 (.cons q2 .nil))⟩ (pairs_each2 all t (fun b' hb => hm b' (List.mem_cons_of_mem _ hb)) g2)
theorem paired_ix2 {α β : Type} {F : α → β → Prop} : ∀ {xs : List α} {ys : List β}, Paired F xs ys → ∀ {j : Nat} {x : α}, xs[j]? = some x → ∃ y, ys[j]? = some y ∧ F x y
  | _, _, .nil, j, x, h => by simp at h
  | _, _, .cons h t, 0, x, e => by simp at e; subst e; exact ⟨_, rfl, h⟩
  | _, _, .cons h t, j + 1, x, e => by
    obtain ⟨y, e1, e2⟩ := paired_ix2 t (j := j) (by simpa using e)
    exact ⟨y, by simpa using e1, e2⟩
section
variable {X : Cx} {W : WX}
theorem sortItemsCore (hc : X.calm = true) (hu : X.A.units + 128 < cLine) {pins : List (Addr × Obj)} {σ : L2.St} {H : Hp} {s : Shared} {Q : VK} (I : Inv X pins σ H s) {p a : Addr} {es : Array DictEntry} {ep : Nat} (view : s.heap.IsItemsView p a) (raw : DT.Raw s.heap a es ep)
    {pv : List (V × V)} (rel : Paired (fun (en : DictEntry) (q : V × V) => RelV q.1 en.key ∧ RelV q.2 en.val) es.toList pv) {ps : List D} (hps : ∀ H1, L2.Same H H1 → Paired (fun (q : V × V) (d : D) => ∃ d1 d2, d = .tuple [d1, d2] ∧ Df X.K H1 q.1 d1 ∧ Df X.K H1 q.2 d2) pv ps)
    (ok : (okSort ps && noLs ps) = true) (hlen : es.size < 1000000) (q : ∀ q ws H', L2.Same H H' → H q = none → H' q = some (.lst ws) → DfAll X.K H' ws (sortD ps) → Q (.ref q) H') :
    wpAny (model X.prog X.w) X.A (call (.builtin "sorted") [.ref p]) (EP X pins σ Q) X.xe s := by
  simp only [Bool.and_eq_true] at ok
  obtain ⟨o1, o2, o3, o4⟩ := okSort_all ok.1
  have l1 : es.size = pv.length := by have := Paired.length rel; simpa using this
  refine DT.sortedI (es := es) (ep := ep) (I.ok.hd hc) view raw (by rw [sizeLine_eq]; omega) fun h' tk as hk hlt hl hG => ?_
  have nd : as.Nodup := List.Pairwise.imp (fun h => Nat.ne_of_lt h) hG.rise
  have lak : as.length = pv.length := by omega
  have hob : (h'.push { cls := .type "list", data := .seq (as.map Value.ref).toArray }).get? h'.objs.size = some (seqObj "list" (as.map Value.ref).toArray 0) := Heap.get?_push_size _ rfl
  have kb : ∀ b o, h'.get? b = some o → (h'.push { cls := .type "list", data := .seq (as.map Value.ref).toArray }).get? b = some o := fun b o e => Heap.get?_push_of_some _ e
  generalize hh2 : h'.push { cls := .type "list", data := .seq (as.map Value.ref).toArray } = h2 at hob kb ⊢
  have low : ∀ b ∈ as, s.heap.objs.size < b := hG.above
  have newA : ∀ b ∈ as, H b = none := fun b hb => I.hok.fresh (Nat.le_of_lt (low b hb))
  have sNone : ∀ b, s.heap.objs.size ≤ b → s.heap.get? b = none := fun b hb => by
    cases e : s.heap.get? b with
    | none => rfl
    | some o => exact absurd (Heap.lt_size e) (Nat.not_lt.mpr hb)
  have atP := putP_at as pv H lak nd
  generalize hH0 : putP H as pv = H0 at atP
  generalize hH1 : frzAll h' as H0 = H1
  have off : ∀ b, b ∉ as → H1 b = H b := fun b hb => by rw [← hH1, frzAll_off hb, ← hH0]; exact putP_off as pv H hb
  have kp : ∀ b u, H b = some u → H1 b = some u := fun b u e => by rw [off b (fun z => by rw [newA b z] at e; cases e)]; exact e
  have here : ∀ b ∈ as, ∃ (j : Nat) (pk : V × V) (en : DictEntry), as[j]? = some b ∧ pv[j]? = some pk ∧ es[j]? = some en ∧ h'.get? b = some { cls := .type "tuple", data := .seq #[en.key, en.val] } ∧ H0 b = some (.tup [pk.1, pk.2]) ∧
      H1 b = some (.frz { cls := .type "tuple", data := .seq #[en.key, en.val] } (.tup [pk.1, pk.2])) := fun b hb => by
    obtain ⟨j, pk, e1, e2, e3⟩ := LiI.paired_ix atP hb
    obtain ⟨en, f1, f2⟩ := hG.pairs j b e1
    exact ⟨j, pk, en, e1, e2, by simpa using f1, f2, e3, by rw [← hH1]; exact frzAll_at hb e3 f2⟩
  have tupOk : ∀ (hh : Heap), (∀ b o, h'.get? b = some o → hh.get? b = some o) → ∀ b ∈ as, ∀ u, H1 b = some u → ∀ H2 : Hp, ObjOk X.prog X.w H2 hh b u := fun hh khh b hb u e H2 => by
    obtain ⟨j, pk, en, e1, e2, f1, f2, e3, e4⟩ := here b hb
    rw [e4] at e; cases e
    obtain ⟨pk', k1, k2, k3⟩ := paired_ix2 rel (j := j) (x := en) (by simpa using f1)
    rw [e2] at k1; cases k1
    exact ⟨khh b _ f2, by show 2 ≤ sizeLine; decide, [en.key, en.val], .cons k2 (.cons k3 .nil), ⟨_, khh b _ f2, rfl, _, rfl⟩⟩
  have atF : Paired (fun (t : Addr) (p : V × V) => FzT H1 t [p.1, p.2]) as pv := paired_mem atP fun b hb p e => by
    obtain ⟨j, pk, en, e1, e2, f1, f2, e3, e4⟩ := here b hb
    rw [e3] at e
    have e5 : [pk.1, pk.2] = [p.1, p.2] := HO.tup.inj (Option.some.inj e)
    exact ⟨_, by rw [← e5]; exact e4, rfl⟩
  have I1 : Inv X pins σ H1 { s with heap := h2, toks := tk } := I.lays (fun b o e => kb b o (hk b o e)) kp fun b u e => by
    by_cases hb : b ∈ as
    · exact .inr ⟨sNone b (Nat.le_of_lt (low b hb)), tupOk h2 kb b hb u e H1⟩
    · rw [off b hb] at e; exact .inl e
  have ea : PySem.W.EachIs (IsPr X.K H1 as) (as.map Value.ref) ps := pairs_each2 as (hps H1 kp) (fun _ h => h) atF
  have nla : ∀ d ∈ ps, noL d = true := noLs_mem ok.2
  rw [sortD_eq] at q
  refine PySem.W.list_sort_data (enc := id) (R := IsPr X.K H1 as) (n := 0) (vs := as.map Value.ref) hob ea (each_mem' ea fun u d hd hu => ?_) (by rw [List.map_id]; exact o1) (by rw [List.map_id]; exact o2) o4 (fun b hb => by have := o3 b hb; show X.A.units + 1 + 1 + b.depth < _; omega) fun out hol eo => ?_
  · obtain ⟨b, rfl, hb, df⟩ := hu
    obtain ⟨as', rd⟩ := Dn.reads I1 (.of df) (show RelV (.ref b) (.ref b) from rfl)
    refine ⟨as', rd, ?_⟩
    rw [reads_noL (nla d hd) rd]
    simp
  · obtain ⟨bs, rfl, dw⟩ := refs_of eo
    obtain ⟨c, hc2⟩ := PyProof.Rows.sortedHeap_at (out := (bs.map Value.ref).toArray) hob
    have ks : ∀ b o, h'.get? b = some o → (PyProof.Rows.sortedHeap h2 h'.objs.size (as.map Value.ref) (bs.map Value.ref).toArray).get? b = some o := fun b o e => by
      have := Heap.lt_size e
      rw [PyProof.Rows.sortedHeap_old (Nat.ne_of_lt this) (Heap.lt_size (kb b o e))]
      exact kb b o e
    have nL : H1 h'.objs.size = none := by
      rw [off _ (fun z => Nat.lt_irrefl _ (hG.there z))]
      exact I.hok.fresh (Nat.le_of_lt hlt)
    have nH : H h'.objs.size = none := I.hok.fresh (Nat.le_of_lt hlt)
    have s1 : L2.Same H1 (upd H1 h'.objs.size (.lst (bs.map V.ref))) := fun b o e => by rw [upd_ne (ne_of_none e nL)]; exact e
    refine ⟨.ref h'.objs.size, upd H1 h'.objs.size (.lst (bs.map V.ref)), I.lays (fun b o e => ks b o (hk b o e)) (fun b u e => s1 b u (kp b u e)) fun b u e => ?_, rfl, q _ _ _ (fun b u e => s1 b u (kp b u e)) nH upd_same (DfAll.mono (Same.stab s1) dw)⟩
    by_cases hb : b = h'.objs.size
    · subst hb
      rw [upd_same] at e; cases e
      refine .inr ⟨sNone _ (Nat.le_of_lt hlt), ?_, bs.map Value.ref, c, LiI.vals_refs bs, hc2⟩
      have e1 := dw.length
      rw [e1]
      show (List.mergeSort ps _).length ≤ _
      rw [List.length_mergeSort]; exact o4
    · rw [upd_ne hb] at e
      by_cases hb2 : b ∈ as
      · exact .inr ⟨sNone b (Nat.le_of_lt (low b hb2)), tupOk _ ks b hb2 u e _⟩
      · rw [off b hb2] at e; exact .inl e
def itemsH (kvs : List (D × R)) : Option (List D) := if kvs.length < 1000000 then match pairsR kvs with
  | some ps => if okSort ps && noLs ps then some (sortD ps) else none
  | none => none
  else none
/-- sorted(d.items()), d with tuples as keys -/
def mSortItemsH (d : EM) : IM := fun ρ S => (d ρ S).bind fun r S1 => match r with
  | .ref n => match S1[n]? with
    | some (.dih kvs) => Res.opt (itemsH kvs) S1
    | _ => .no
  | .d _ => .no
def rItemsH (w : World) (K : PySem.W.Frag) : V → List V → Hp → VK → Prop := fun x xs H Q => ∃ (a : Addr) (zs : List (NestedKey × Addr × Value)), x = .ref a ∧ xs = [] ∧ H a = some (DicO w a zs) ∧ XsAt K H zs ∧ ∀ p, H p = none → Q (.ref p) (upd H p (itemsO p a))
theorem mt_itemsH : MtR X "dict.items" (rItemsH X.w X.K) := by
  intro pins s σ H x xs v us Q I rx rxs h
  obtain ⟨a, zs, rfl, rfl, ha, hk, q⟩ := h
  cases rx
  cases rxs
  obtain ⟨hz, hs, o, es, ep, ho, hx, hdat, _⟩ := dih_of I (.inl ha) hk
  refine DT.callItems (es := es) (ep := ep) hs ⟨o, ho, hx, hdat⟩ ⟨.ref s.heap.objs.size, upd H s.heap.objs.size (itemsO s.heap.objs.size a), ?_, rfl, q _ (I.hok.fresh (Nat.le_refl _))⟩
  exact I.laid (t' := s.toks) (fun b u e => Heap.get?_push_of_some _ e) (Nat.le_refl _) (itemsO_ok (Heap.get?_push_size _ rfl))
def rSortItH (w : World) (K : PySem.W.Frag) : List V → Hp → VK → Prop := fun vs H Q => ∃ (p a : Addr) (xs : List (NestedKey × Addr × Value)) (φ : List Addr) (kvs : List (D × R)) (zs : List D), vs = [.ref p] ∧ H p = some (itemsO p a) ∧ H a = some (DicO w a xs) ∧ RelH K φ H xs kvs ∧ itemsH kvs = some zs ∧
  ∀ q ws H', L2.Same H H' → H q = none → H' q = some (.lst ws) → DfAll K H' ws zs → Q (.ref q) H'
theorem rh_pairs {w : World} {K : PySem.W.Frag} {φ : List Addr} {H : Hp} : ∀ {xs : List (NestedKey × Addr × Value)} {kvs : List (D × R)} {ps : List D}, RelH K φ H xs kvs → pairsR kvs = some ps →
    ∃ pv : List (V × V), Paired (fun (en : DictEntry) (q : V × V) => RelV q.1 en.key ∧ RelV q.2 en.val) (xs.map fun x => (⟨NestedKey.hash w x.1, .ref x.2.1, x.2.2⟩ : DictEntry)) pv ∧ Paired (fun (q : V × V) (d : D) => ∃ d1 d2, d = .tuple [d1, d2] ∧ Df K H q.1 d1 ∧ Df K H q.2 d2) pv ps
  | _, _, _, .nil, e => by cases e; exact ⟨[], .nil, .nil⟩
  | _, _, ps, .cons (a := x) (b := y) h t, e => by
    obtain ⟨yk, yv⟩ := y
    obtain ⟨h1, h2, v, h3, h4⟩ := h
    cases yv with
    | ref i => cases e
    | d z =>
      unfold pairsR at e
      split at e
      · rename_i r er
        cases e
        obtain ⟨pv, q1, q2⟩ := rh_pairs (w := w) t er
        exact ⟨(.ref x.2.1, v) :: pv, .cons ⟨rfl, h3⟩ q1, .cons ⟨yk, z, rfl, h2, h4⟩ q2⟩
      · cases e
theorem cr_sortItH (hc : X.calm = true) (hu : X.A.units + 128 < cLine) : CallR X (.builtin "sorted") (rSortItH X.w X.K) := by
  intro pins s σ H xs us Q I r h
  obtain ⟨p, a, zs, φ, kvs, ys, rfl, hp, ha, rk, ei, q⟩ := h
  rw [Vals.ref1 r]
  unfold itemsH at ei
  split at ei
  · rename_i hlen
    split at ei
    · rename_i ps eps
      split at ei
      · rename_i ok
        cases ei
        have view : s.heap.IsItemsView p a := (show ObjOk X.prog X.w H s.heap p (itemsO p a) from I.hok p _ hp).1
        obtain ⟨⟨⟨o, ep, g1, g2, g3⟩, _⟩, _⟩ := (show ObjOk X.prog X.w H s.heap a (DicO X.w a zs) from I.hok a _ ha)
        obtain ⟨pv, q1, q2⟩ := rh_pairs (w := X.w) rk eps
        have l3 := rh_len rk
        refine sortItemsCore hc hu I view ⟨o, g1, g2, g3⟩ (by rw [List.toList_toArray]; exact q1) (fun H1 sm => ?_) ok (by simp; omega) q
        exact Paired.mapP q2 fun x y ⟨d1, d2, e, f1, f2⟩ => ⟨d1, d2, e, Df.mono (Same.stab sm) f1, Df.mono (Same.stab sm) f2⟩
      · cases ei
    · cases ei
  · cases ei
theorem rd_sortItH {w : World} {K : PySem.W.Frag} {mg : Str → Option Value} {m : EM} {σ : L2.St} {H : Hp} {Q : VK} (h : rdN w K mg W (mSortItemsH m) σ H Q) :
    tCB (rSortItH w K) (tCons (fun σ H Q => rdE w K mg W m σ H fun x H1 => rItemsH w K x [] H1 Q) tNil) σ H Q := by
  obtain ⟨φ, ρ, S, eo, so, h⟩ := h
  refine ⟨φ, ρ, S, eo, so, ?_⟩
  refine (EndR.bind h).imp fun r φ1 S1 H1 _ g1 so1 h1 v r1 => ?_
  cases r with
  | d _ => exact h1.elim
  | ref n =>
    simp only at h1
    split at h1
    · rename_i kvs es
      unfold Res.opt at h1
      split at h1
      · rename_i zs ez
        obtain ⟨a, ha, rfl⟩ := r1
        obtain ⟨xs, e1, e2⟩ := so1.cell n a _ ha es
        refine ⟨a, xs, rfl, rfl, e1, rh_xs e2, fun p hp => ?_⟩
        have s1 : L2.Same H1 (upd H1 p (itemsO p a)) := fun b o e => by rw [upd_ne (ne_of_none e hp)]; exact e
        refine ⟨p, a, xs, φ1, kvs, zs, rfl, upd_same, s1 _ _ e1, RelH.mono (List.prefix_refl _) (Same.stab s1) e2, ez, fun q ws H' s2 nq eq dq => ?_⟩
        have s3 : L2.Same H1 H' := fun b o e => s2 b o (s1 b o e)
        have nq1 : H1 q = none := by
          by_cases hq : q = p
          · rw [hq]; exact hp
          · rw [upd_ne hq] at nq; exact nq
        exact h1 φ1 H' (Grow.same s3) (so1.same s3) q ws (Grow.none g1 nq1 (so1.free nq1)) (so1.free nq1) eq dq
      · exact h1.elim
    · exact h1.elim
/-- the view d.items() as a value -/
theorem pe_itemsH {o : Expr} {to : TE} {apos cpos : Pos} (ho : PE X o to) (hbase : attributeBase o "items" X.env (eval o X.env) = eval o X.env) (hline : (apos.endLine == cpos.line) = true) :
    PE X (.Call (.Attribute o "items" apos) [] [] cpos) (fun σ H Q => to σ H fun x H1 => rItemsH X.w X.K x [] H1 Q) := by
  constructor
  intro pins s σ H Q I h
  refine wpAny_Call_method (T := "dict") (id := "dict.items") hbase rfl hline PySem.F.plainAttrs_dict PySem.F.slot_dict_items PySem.F.type_dict_items (thn (ho.run pins s σ H _ I h) ?_)
  rintro u s1 ⟨x, H1, I1, rx, q⟩
  obtain ⟨a, zs, ex, e0, ha, hk, q2⟩ := id q
  subst ex
  obtain rfl : u = Value.ref a := rx
  obtain ⟨t1, t2, _⟩ := isDP_at I1 (.inr ⟨zs, .inl ha, hk⟩)
  refine ⟨t1, t2, ?_⟩
  show wpAny _ _ (callWith cpos (.builtin "dict.items") [.ref a] [] []) _ X.xe s1
  exact Calls.callWith_builtin rfl (PySem.evalArgs_none (mt_itemsH pins s1 σ H1 (.ref a) [] (.ref a) [] Q I1 rfl .nil q))
theorem i_sortItemsH {o : Expr} {m : EM} {p apos cpos pos : Pos} (h : IE X W o m) (hm : X.mg "sorted" = none) (hu : X.A.units + 128 < cLine) (hc : X.calm = true := by rfl) (hg : Gl X "sorted" := by rfl)
    (hbase : attributeBase o "items" X.env (eval o X.env) = eval o X.env := by rfl) (hline : (apos.endLine == cpos.line) = true := by rfl)
    (he : starEach [.Call (.Attribute o "items" apos) [] [] cpos] X.env = (false, eval (.Call (.Attribute o "items" apos) [] [] cpos) X.env) :: starEach [] X.env := by rfl) (hpl : (backTo pos (starEach [] X.env)).any (·.1) = false := by rfl) :
    IN X W (.Call (.Name "sorted" p) [.Call (.Attribute o "items" apos) [] [] cpos] [] pos) (mSortItemsH m) :=
  PE.imp (pe_callB (cr_sortItH hc hu) hg hm boot_sorted (pa_cons (pe_itemsH h hbase hline) pa_nil he) (by decide) (by decide) he hpl) fun _ _ _ h => rd_sortItH h
end
end Pi

set_option Elab.async false
set_option linter.all false
set_option maxRecDepth 100000
/-! PiDic5: sorted(d) of tuple keys; dict(pairs); list(d.items()). -/
namespace Pi
open PySem PySem.Spec PyProof.Rows L2 L2.DX

def keysSort (kvs : List (D × R)) : Option (List D) := if kvs.length < 1000000 then if okSort (kvs.map (·.1)) && noLs (kvs.map (·.1)) then some (sortD (kvs.map (·.1))) else none else none
/-- sorted(d), d with tuples as keys -/
def mSortKeysH (d : EM) : IM := fun ρ S => (d ρ S).bind fun r S1 => match r with
  | .ref n => match S1[n]? with
    | some (.dih kvs) => Res.opt (keysSort kvs) S1
    | _ => .no
  | .d _ => .no
def rSortKeysH (w : World) (K : PySem.W.Frag) : List V → Hp → VK → Prop := fun vs H Q => ∃ (a : Addr) (xs : List (NestedKey × Addr × Value)) (φ : List Addr) (kvs : List (D × R)) (zs : List D), vs = [.ref a] ∧ H a = some (DicO w a xs) ∧ RelH K φ H xs kvs ∧ keysSort kvs = some zs ∧
  ∀ q ws H', L2.Same H H' → H q = none → H' q = some (.lst ws) → DfAll K H' ws zs → Q (.ref q) H'
theorem rh_keys {K : PySem.W.Frag} {φ : List Addr} {H : Hp} (all : List Addr) : ∀ {xs : List (NestedKey × Addr × Value)} {kvs : List (D × R)}, RelH K φ H xs kvs → (∀ x ∈ xs, x.2.1 ∈ all) → PySem.W.EachIs (IsPr K H all) (xs.map fun x => Value.ref x.2.1) (kvs.map (·.1))
  | _, _, .nil, _ => .nil
  | _, _, .cons h t, hm => .cons ⟨_, rfl, hm _ List.mem_cons_self, h.2.1⟩ (rh_keys all t fun x hx => hm x (List.mem_cons_of_mem _ hx))
section
variable {X : Cx} {W : WX}
theorem sortRefs (hu : X.A.units + 128 < cLine) {pins : List (Addr × Obj)} {σ : L2.St} {H : Hp} {s : Shared} {Q : VK} (I : Inv X pins σ H s) {h' : Heap} {tk : Nat} (hk : ∀ b o, s.heap.get? b = some o → h'.get? b = some o) {all : List Addr} {us : List Value} {ps : List D} (ea : PySem.W.EachIs (IsPr X.K H all) us ps)
    (ok : (okSort ps && noLs ps) = true) (q : ∀ q ws H', L2.Same H H' → H q = none → H' q = some (.lst ws) → DfAll X.K H' ws (sortD ps) → Q (.ref q) H') :
    wpAny (model X.prog X.w) X.A.in1 (call (.builtin "list.sort") [.ref h'.objs.size]) (fun _ s' => EP X pins σ Q (.ref h'.objs.size) s') X.xe { s with heap := h'.push { cls := .type "list", data := .seq us.toArray }, toks := tk } := by
  simp only [Bool.and_eq_true] at ok
  obtain ⟨o1, o2, o3, o4⟩ := okSort_all ok.1
  have I0 : Inv X pins σ H { s with heap := h', toks := tk } := I.kept hk
  have hob : (h'.push { cls := .type "list", data := .seq us.toArray }).get? h'.objs.size = some (seqObj "list" us.toArray 0) := Heap.get?_push_size _ rfl
  have kb : ∀ b o, h'.get? b = some o → (h'.push { cls := .type "list", data := .seq us.toArray }).get? b = some o := fun b o e => Heap.get?_push_of_some _ e
  generalize hh2 : h'.push { cls := .type "list", data := .seq us.toArray } = h2 at hob kb ⊢
  have I1 : Inv X pins σ H { s with heap := h2, toks := tk } := I.kept fun b o e => kb b o (hk b o e)
  have nla : ∀ d ∈ ps, noL d = true := noLs_mem ok.2
  rw [sortD_eq] at q
  refine PySem.W.list_sort_data (enc := id) (R := IsPr X.K H all) (n := 0) (vs := us) hob ea (each_mem' ea fun u d hd hu => ?_) (by rw [List.map_id]; exact o1) (by rw [List.map_id]; exact o2) o4 (fun b hb => by have := o3 b hb; show X.A.units + 1 + 1 + b.depth < _; omega) fun out hol eo => ?_
  · obtain ⟨b, rfl, hb, df⟩ := hu
    obtain ⟨as', rd⟩ := Dn.reads I1 (.of df) (show RelV (.ref b) (.ref b) from rfl)
    refine ⟨as', rd, ?_⟩
    rw [reads_noL (nla d hd) rd]
    simp
  · obtain ⟨bs, rfl, dw⟩ := refs_of eo
    obtain ⟨c, hc2⟩ := PyProof.Rows.sortedHeap_at (out := (bs.map Value.ref).toArray) hob
    have ks : ∀ b o, h'.get? b = some o → (PyProof.Rows.sortedHeap h2 h'.objs.size us (bs.map Value.ref).toArray).get? b = some o := fun b o e => by
      have := Heap.lt_size e
      rw [PyProof.Rows.sortedHeap_old (Nat.ne_of_lt this) (Heap.lt_size (kb b o e))]
      exact kb b o e
    have nH : H h'.objs.size = none := I0.hok.fresh (Nat.le_refl _)
    have s1 : L2.Same H (upd H h'.objs.size (.lst (bs.map V.ref))) := fun b o e => by rw [upd_ne (ne_of_none e nH)]; exact e
    refine ⟨.ref h'.objs.size, upd H h'.objs.size (.lst (bs.map V.ref)), I0.lays ks s1 fun b u e => ?_, rfl, q _ _ _ s1 nH upd_same (DfAll.mono (Same.stab s1) dw)⟩
    by_cases hb : b = h'.objs.size
    · subst hb
      rw [upd_same] at e; cases e
      refine .inr ⟨?_, ?_, bs.map Value.ref, c, LiI.vals_refs bs, hc2⟩
      · show h'.get? h'.objs.size = none
        cases e : h'.get? h'.objs.size with
        | none => rfl
        | some o => exact absurd (Heap.lt_size e) (Nat.lt_irrefl _)
      · have e1 := dw.length
        rw [e1]
        show (List.mergeSort ps _).length ≤ _
        rw [List.length_mergeSort]; exact o4
    · rw [upd_ne hb] at e
      exact .inl e
theorem cr_sortKeysH (hc : X.calm = true) (hu : X.A.units + 128 < cLine) : CallR X (.builtin "sorted") (rSortKeysH X.w X.K) := by
  intro pins s σ H xs us Q I r h
  obtain ⟨a, zs, φ, kvs, ys, rfl, ha, rk, ei, q⟩ := h
  rw [Vals.ref1 r]
  unfold keysSort at ei
  split at ei
  · rename_i hlen
    split at ei
    · rename_i ok
      cases ei
      obtain ⟨⟨⟨o, ep, g1, g2, g3⟩, _, hs, _⟩, _⟩ := (show ObjOk X.prog X.w H s.heap a (DicO X.w a zs) from I.hok a _ ha)
      have l3 := rh_len rk
      have hraw : s.heap.DictRaw a (zs.map fun x => (⟨NestedKey.hash X.w x.1, .ref x.2.1, x.2.2⟩ : DictEntry)).toArray ep := ⟨o, g1, g2, g3⟩
      have hsz : (zs.map fun x => (⟨NestedKey.hash X.w x.1, .ref x.2.1, x.2.2⟩ : DictEntry)).toArray.size = zs.length := by simp
      refine Calls.call_function_entry kind_sorted plain_sorted entry_sorted (args_sorted1 _) (by
        unfold Builtin.«sorted»
        refine wpAny_bind (m := checkCount "sorted" 1 1 _) (wpAny_pure (wpAny_bind (PySem.W.kdu_collect (A := X.A.in1) (KdlSrc.rawDict (ep := ep) hs) (I.ok.hd hc) hraw (by rw [hsz, sizeLine_eq]; omega) ?_)))
        intro h' tk acc hk hacc
        have eacc : acc.toList = zs.map fun x => Value.ref x.2.1 := by
          refine List.ext_getElem? fun j => ?_
          rw [List.getElem?_map, Array.getElem?_toList]
          by_cases hj : j < zs.length
          · have hj2 : j < acc.size := by rw [hacc.1, hsz]; exact hj
            obtain ⟨hi, hv⟩ := hacc.2 j acc[j] (Array.getElem?_eq_getElem hj2)
            rw [Array.getElem?_eq_getElem hj2, hv, List.getElem?_eq_getElem hj]
            simp
          · rw [List.getElem?_eq_none (by omega), Array.getElem?_eq_none (by rw [hacc.1, hsz]; omega)]
            rfl
        refine wpAny_bind (wpAny_newList ?_ (by rw [eacc, List.length_map, sizeLine_eq]; omega))
        have hg := sortRefs (Q := Q) (tk := tk) hu I hk (rh_keys (zs.map fun x => x.2.1) rk fun x hx => List.mem_map.mpr ⟨x, hx, rfl⟩) ok q
        rw [eacc]
        exact wpAny_bind (wpAny_holding (wpAny_mono hg (fun _ s2 x => wpAny_pure ⟨_, rfl, x⟩) fun _ _ e => e)))
    · cases ei
  · cases ei
theorem i_sortKeysH {o : Expr} {m : EM} {p pos : Pos} (h : IE X W o m) (hm : X.mg "sorted" = none) (hu : X.A.units + 128 < cLine) (hc : X.calm = true := by rfl) (hg : Gl X "sorted" := by rfl)
    (he : starEach [o] X.env = (false, eval o X.env) :: starEach [] X.env := by rfl) (hpl : (backTo pos (starEach [] X.env)).any (·.1) = false := by rfl) :
    IN X W (.Call (.Name "sorted" p) [o] [] pos) (mSortKeysH m) :=
  PE.imp (pe_callB (cr_sortKeysH hc hu) hg hm boot_sorted (pa_cons h pa_nil he) (by decide) (by decide) he hpl) fun σ H Q h => by
    obtain ⟨φ, ρ, S, eo, so, h⟩ := h
    refine ⟨φ, ρ, S, eo, so, ?_⟩
    refine (EndR.bind h).imp fun r φ1 S1 H1 _ g1 so1 h1 v r1 => ?_
    cases r with
    | d _ => exact h1.elim
    | ref n =>
      simp only at h1
      split at h1
      · rename_i kvs es
        unfold Res.opt at h1
        split at h1
        · rename_i zs ez
          obtain ⟨a, ha, rfl⟩ := r1
          obtain ⟨xs, e1, e2⟩ := so1.cell n a _ ha es
          exact ⟨a, xs, φ1, kvs, zs, rfl, e1, e2, ez, fun q ws H' s2 nq eq dq => h1 φ1 H' (Grow.same s2) (so1.same s2) q ws (Grow.none g1 nq (so1.free nq)) (so1.free nq) eq dq⟩
        · exact h1.elim
      · exact h1.elim
end
end Pi

set_option Elab.async false
set_option linter.all false
set_option maxRecDepth 100000
/-! PiDic6: dict(pairs), list(d.items()). -/
namespace Pi
open PySem PySem.Spec PyProof.Rows L2 L2.DX

def pairsOf : List D → Option (List (D × R))
  | [] => some []
  | .tuple [k, v] :: t => (pairsOf t).map ((k, .d v) :: ·)
  | _ => none
def mergeKv (acc more : List (D × R)) : List (D × R) := more.foldl (fun acc p => putKv acc p.1 p.2) acc
def dictK (d : D) : Option (List (D × R)) := match d with
  | .list ds => match pairsOf ds with
    | some kvs => if (kvs.all fun p => (keyOf p.1).isSome) = true then some (mergeKv [] kvs) else none
    | none => none
  | _ => none
/-- dict(a list of pairs), keys that are ints and texts -/
def mDictK (e : EM) : EM := fun ρ S => (e ρ S).bind fun r S1 => match rd S1 r with
  | some d => match dictK d with
    | some kvs => .ok (.ref S1.length) (S1 ++ [.dic kvs])
    | none => .no
  | none => .no
theorem pairs_kv {K : PySem.W.Frag} {φ : List Addr} {H : Hp} : ∀ {vs : List V} {ds : List D} {kvs : List (D × R)}, DfAll K H vs ds → pairsOf ds = some kvs → (kvs.all fun p => (keyOf p.1).isSome) = true →
    ∃ (ps : List Addr) (kv : List (L2.Key × V)), vs = ps.map V.ref ∧ Paired (fun p q => SqT K H p [kV q.1, q.2]) ps kv ∧ RelKv K φ H kv kvs
  | _, [], kvs, h, e, _ => by cases h; cases e; exact ⟨[], [], rfl, .nil, .nil⟩
  | _, .tuple [k, v] :: t, kvs, h, e, hk => by
    cases h with
    | cons h1 h2 =>
      have e' : (pairsOf t).map ((k, R.d v) :: ·) = some kvs := e
      cases q : pairsOf t with
      | none => rw [q] at e'; cases e'
      | some r =>
        rw [q] at e'
        cases e'
        rw [List.all_cons, Bool.and_eq_true] at hk
        obtain ⟨j, ej⟩ := Option.isSome_iff_exists.mp hk.1
        obtain ⟨ps, kv, e1, e2, e3⟩ := pairs_kv (φ := φ) h2 q hk.2
        obtain ⟨a, xs, rfl, hs, df⟩ := h1.tup_at
        cases df with
        | cons f1 f2 =>
          cases f2 with
          | @cons y _ _ _ f3 f4 =>
            cases f4
            have hx := dn_key (.of f1) ej
            subst hx
            exact ⟨a :: ps, (j, y) :: kv, by rw [e1]; rfl, .cons hs.sq e2, .cons ⟨keyD_of ej, f3⟩ e3⟩
  | _, .tuple [] :: _, _, _, e, _ => by cases e
  | _, .tuple [_] :: _, _, _, e, _ => by cases e
  | _, .tuple (_ :: _ :: _ :: _) :: _, _, _, e, _ => by cases e
  | _, .none :: _, _, _, e, _ => by cases e
  | _, .bool _ :: _, _, _, e, _ => by cases e
  | _, .int _ :: _, _, _, e, _ => by cases e
  | _, .str _ :: _, _, _, e, _ => by cases e
  | _, .list _ :: _, _, _, e, _ => by cases e
  | _, .dict _ :: _, _, _, e, _ => by cases e
theorem merge_kv {K : PySem.W.Frag} {φ : List Addr} {H : Hp} : ∀ {more : List (L2.Key × V)} {mores : List (D × R)} {kv : List (L2.Key × V)} {kvs : List (D × R)}, RelKv K φ H more mores → RelKv K φ H kv kvs → RelKv K φ H (mergeK kv more) (mergeKv kvs mores)
  | _, _, _, _, .nil, h => h
  | (k, v) :: t, (j, r) :: t', kv, kvs, .cons h ht, hk => by
    have ej : keyOf j = some k := by
      obtain ⟨e, _⟩ := h
      cases k <;> (simp [keyD] at e; rw [← e]; rfl)
    show RelKv K φ H (mergeK (putK kv k v) t) (mergeKv (putKv kvs j r) t')
    exact merge_kv ht (kv_put hk ej h.2)
section
variable {X : Cx} {W : WX} {e o : Expr} {me mo : EM} {p pos apos cpos : Pos}
theorem i_dictK (he : IE X W e me) (hm : X.mg "dict" = none) (hc : X.calm = true := by rfl) (hg : Gl X "dict" := by rfl)
    (hs : starEach [e] X.env = (false, eval e X.env) :: starEach [] X.env := by rfl) (hpl : (backTo pos (starEach [] X.env)).any (·.1) = false := by rfl) : IE X W (.Call (.Name "dict" p) [e] [] pos) (mDictK me) :=
  PE.imp (pe_callTy (call_dictP hc) hg hm (by decide +kernel) (pa_cons he pa_nil hs) (by decide) (by decide) hs hpl) fun σ H Q h => by
    obtain ⟨φ, ρ, S, eo, so, h⟩ := h
    refine ⟨φ, ρ, S, eo, so, (EndR.bind h).imp fun r φ1 S1 H1 _ g1 so1 h1 v r1 => ?_⟩
    split at h1
    · rename_i d er
      have dn := r1.rd so1 er
      split at h1
      · rename_i kvs ek
        unfold dictK at ek
        split at ek
        · rename_i ds
          split at ek
          · rename_i ps ep
            split at ek
            · rename_i ha
              cases ek
              obtain ⟨a, xs, rfl, hq, df⟩ := dn.list_at
              obtain ⟨as, kv, rfl, q1, q2⟩ := pairs_kv (φ := φ1) df ep ha
              refine ⟨a, as, kv, rfl, hq, q1, fun p hp => ?_⟩
              have sm : L2.Same H1 (upd H1 p (.dK (mergeK [] kv))) := fun b o e => by rw [upd_ne (ne_of_none e hp)]; exact e
              obtain ⟨g, so', e⟩ := st_one so1 (c := .dic (mergeKv [] ps)) hp ⟨mergeK [] kv, upd_same, merge_kv (RelKv.mono (List.prefix_append _ _) (Same.stab sm) q2) .nil⟩
              exact h1 _ _ g so' _ ⟨p, e, rfl⟩
            · cases ek
          · cases ek
        · cases ek
      · exact h1.elim
    · exact h1.elim
end
/-! ### dict(pairs) with tuples as keys -/
def dictH (d : D) : Option (List (D × R)) := match itD d with
  | some ds => match pairsOf ds with
    | some kvs => if (kvs.all fun p => (keyH p.1).isSome) = true ∧ kvs.length < 1000000 then some (mergeKv [] kvs) else none
    | none => none
  | none => none
def mDictH (e : EM) : EM := fun ρ S => (e ρ S).bind fun r S1 => match rdR r with
  | some d => match dictH d with
    | some kvs => .ok (.ref S1.length) (S1 ++ [.dih kvs])
    | none => .no
  | none => .no
/-- the pairs in the heap: their addresses, the entries -/
theorem pairs_heap {X : Cx} {pins : List (Addr × Obj)} {σ : L2.St} {H : Hp} {s : Shared} (I : Inv X pins σ H s) {φ : List Addr} : ∀ {vs : List V} {ds : List D} {kvs : List (D × R)} {us : List Value}, DfAll X.K H vs ds → Vals vs us → pairsOf ds = some kvs → (kvs.all fun p => (keyH p.1).isSome) = true →
    ∃ (ts : List Addr) (xs : List (NestedKey × Addr × Value)), us = ts.map Value.ref ∧ RelH X.K φ H xs kvs ∧ Paired (fun t (x : NestedKey × Addr × Value) => s.heap.IsTuple t #[.ref x.2.1, x.2.2]) ts xs
  | _, [], kvs, us, h, r, e, _ => by cases h; cases r; cases e; exact ⟨[], [], rfl, .nil, .nil⟩
  | _, .tuple [k, v] :: t, kvs, us, h, r, e, hk => by
    cases h with
    | cons h1 h2 =>
      cases r with
      | cons r1 r2 =>
        have e' : (pairsOf t).map ((k, R.d v) :: ·) = some kvs := e
        cases q : pairsOf t with
        | none => rw [q] at e'; cases e'
        | some r =>
          rw [q] at e'
          cases e'
          rw [List.all_cons, Bool.and_eq_true] at hk
          obtain ⟨j, ej⟩ := Option.isSome_iff_exists.mp hk.1
          obtain ⟨ts, xs, e1, e2, e3⟩ := pairs_heap I (φ := φ) h2 r2 q hk.2
          obtain ⟨a, ws, rfl, hs, df⟩ := h1.tup_at
          cases (show _ = Value.ref a from r1)
          obtain ⟨its, rv, ⟨o, ho, hc, n, hd⟩, hz⟩ := I.tuple hs.sq
          cases df with
          | cons f1 f2 =>
            cases f2 with
            | @cons y _ _ _ f3 f4 =>
              cases f4
              obtain ⟨_, _, dk, rfl⟩ := keyH_to ej
              obtain ⟨b, bs, rfl, hb, dfb⟩ := f1.tup_at
              cases rv with
              | cons v1 v2 =>
                cases v2 with
                | @cons _ u2 _ _ v3 v4 =>
                  cases v4
                  cases (show _ = Value.ref b from v1)
                  exact ⟨a :: ts, (j, b, u2) :: xs, by rw [e1]; rfl, .cons ⟨ej, .tup hb dfb, y, v3, f3⟩ e2, .cons ⟨o, ho, hc, n, hd⟩ e3⟩
  | _, .tuple [] :: _, _, _, _, _, e, _ => by cases e
  | _, .tuple [_] :: _, _, _, _, _, e, _ => by cases e
  | _, .tuple (_ :: _ :: _ :: _) :: _, _, _, _, _, e, _ => by cases e
  | _, .none :: _, _, _, _, _, e, _ => by cases e
  | _, .bool _ :: _, _, _, _, _, e, _ => by cases e
  | _, .int _ :: _, _, _, _, _, e, _ => by cases e
  | _, .str _ :: _, _, _, _, _, e, _ => by cases e
  | _, .list _ :: _, _, _, _, _, e, _ => by cases e
  | _, .dict _ :: _, _, _, _, _, e, _ => by cases e
theorem merge_rh {K : PySem.W.Frag} {φ : List Addr} {H : Hp} : ∀ {more : List (NestedKey × Addr × Value)} {mores : List (D × R)} {xs : List (NestedKey × Addr × Value)} {kvs : List (D × R)}, RelH K φ H more mores → RelH K φ H xs kvs → RelH K φ H (storedAllH xs more) (mergeKv kvs mores)
  | _, _, _, _, .nil, h => h
  | (k, b, u) :: t, (j, r) :: t', xs, kvs, .cons h ht, hk => by
    obtain ⟨h1, h2, v, h3, h4⟩ := h
    show RelH K φ H (storedAllH (storedH xs k b u) t) (mergeKv (putKv kvs j r) t')
    exact merge_rh ht (rh_put hk h1 h2 h3 h4)
theorem stays_n {P : Program} {w : World} : (nestedKind P w).Stays := nestedKind_stays
section
variable {X : Cx} {W : WX} {e : Expr} {me : EM} {p pos : Pos}
def rDictH (w : World) (K : PySem.W.Frag) : List V → Hp → VK → Prop := fun vs H Q => ∃ (a : Addr) (ws : List V) (ds : List D) (φ : List Addr) (kvs : List (D × R)), vs = [.ref a] ∧ (FzL K H a ws ∨ FzT H a ws) ∧ DfAll K H ws ds ∧ pairsOf ds = some kvs ∧ (kvs.all fun p => (keyH p.1).isSome) = true ∧ kvs.length < 1000000 ∧
  ∀ q xs, H q = none → RelH K φ (upd H q (DicO w q xs)) xs (mergeKv [] kvs) → Q (.ref q) (upd H q (DicO w q xs))
theorem cr_dictH (hc : X.calm = true) (hu : X.A.units + 128 < cLine) : CallR X (.type "dict") (rDictH X.w X.K) := by
  intro pins s σ H xs us Q I r h
  obtain ⟨a, ws, ds, φ, kvs, rfl, hq, df, ep, hk, hn, q⟩ := h
  rw [Vals.ref1 r]
  have hm : (s.heap.objs.size == sysModules) = false := beq_eq_false_iff_ne.mpr (Nat.ne_of_gt I.big)
  have go : ∀ {T : String} (items : Array Value) (us2 : List Value) (PA : ∀ (Ts : Nat → Addr) (ps : List (Value × Value)), PairArg X.prog X.w T a (a :: (List.range ps.length).map Ts) [] ps.length (PairRel ps) (fun h => PlainSeq T h a items ∧ PairItems h items Ts ps)),
      Vals ws us2 → items = us2.toArray → PlainSeq T s.heap a items → wpAny (model X.prog X.w) X.A (call (.type "dict") [.ref a]) (EP X pins σ Q) X.xe s := by
    intro T items us2 PA rv hit pl
    obtain ⟨ts, zs, e1, e2, e3⟩ := pairs_heap I (φ := φ) df rv ep hk
    have hl : ts.length = zs.length := Paired.length e3
    have hl2 := rh_len e2
    refine call_dict_pairsH (knd := nestedKind X.prog X.w) (ps := zs) (PA (fun j => ts.getD j 0) (zs.map fun x => (Value.ref x.2.1, x.2.2))) (I.ok.hd hc) (by show X.A.units + 1 + 1 + 8 < cLine; omega) ⟨pl, ?_, ?_⟩ ⟨by simp, fun i key v hr => ?_⟩ (fun h' hkk x hx => ?_) (by rw [List.length_map, sizeLine_eq]; omega) fun h' tk hd' hkk => ?_
    · rw [hit, e1]; simp [hl]
    · intro j k v hj
      rw [List.getElem?_map] at hj
      obtain ⟨x, hx, ex⟩ := Option.map_eq_some_iff.mp hj
      cases ex
      have hjl : j < ts.length := by rw [hl]; exact (List.getElem?_eq_some_iff.mp hx).1
      obtain ⟨y, g1, g2⟩ := paired_ix2 e3 (j := j) (x := ts[j]) (List.getElem?_eq_getElem hjl)
      rw [hx] at g1; cases g1
      have hd : ts.getD j 0 = ts[j] := by simp [hjl]
      show items[j]? = some (.ref (ts.getD j 0)) ∧ _
      simp only [hd]
      refine ⟨?_, .inl g2⟩
      rw [hit, e1]
      simp [hjl]
    · have hr' : (zs.map fun x => (Value.ref x.2.1, x.2.2))[i]? = some (key, v) := hr
      rw [List.getElem?_map] at hr'
      obtain ⟨x, hx, ex⟩ := Option.map_eq_some_iff.mp hr'
      cases ex
      exact ⟨x.1, x.2.1, hx, rfl⟩
    · exact stays_n.stays (fun b o vs n ho hdt => hkk b o (fun z => by rw [z] at ho; exact absurd (Heap.lt_size ho) (Nat.lt_irrefl _)) (fun z => nomatch z) ho) ((rh_xs e2 x hx).is I)
    · have hz : (storedAllH [] zs).length ≤ sizeLine := by
        have := storedAllH_length zs []
        rw [List.length_nil, Nat.zero_add] at this
        rw [sizeLine_eq]; omega
      have nH : H s.heap.objs.size = none := I.hok.fresh (Nat.le_refl _)
      have sm : L2.Same H (upd H s.heap.objs.size (DicO X.w s.heap.objs.size (storedAllH [] zs))) := fun b o e => by rw [upd_ne (ne_of_none e nH)]; exact e
      exact ⟨.ref s.heap.objs.size, _, I.laid (t' := tk) (fun b o e => hkk b o (fun z => nomatch z) e) (Nat.le_refl _) (dicO_ok hz hm hd'), rfl, q _ _ nH (merge_rh (RelH.mono (List.prefix_refl _) (Same.stab sm) e2) .nil)⟩
  rcases hq with hq | hq
  · obtain ⟨its, rv, pl, hz⟩ := I.list hq.sq
    obtain ⟨o, n, ho, hcl, hdn, hdat⟩ := pl
    exact go its.toArray its (fun Ts ps => PairArg.list a its.toArray Ts ps) rv rfl ⟨o, n, ho, hcl, hdn, hdat⟩
  · obtain ⟨its, rv, ⟨o, ho, hcl, n, hdat⟩, hz⟩ := I.tuple hq.sq
    obtain ⟨o', h1, hdn⟩ := hq
    have h2 : s.heap.get? a = some o' := (show ObjOk X.prog X.w H s.heap a (.frz o' (.tup ws)) from I.hok a _ h1).1
    rw [ho] at h2; cases h2
    exact go its.toArray its (fun Ts ps => PairArg.tuple a its.toArray Ts ps) rv rfl ⟨o, n, ho, hcl, hdn, hdat⟩
theorem i_dictH (he : IE X W e me) (hm : X.mg "dict" = none) (hu : X.A.units + 128 < cLine) (hc : X.calm = true := by rfl) (hg : Gl X "dict" := by rfl)
    (hs : starEach [e] X.env = (false, eval e X.env) :: starEach [] X.env := by rfl) (hpl : (backTo pos (starEach [] X.env)).any (·.1) = false := by rfl) : IE X W (.Call (.Name "dict" p) [e] [] pos) (mDictH me) :=
  PE.imp (pe_callTy (cr_dictH hc hu) hg hm (by decide +kernel) (pa_cons he pa_nil hs) (by decide) (by decide) hs hpl) fun σ H Q h => by
    obtain ⟨φ, ρ, S, eo, so, h⟩ := h
    refine ⟨φ, ρ, S, eo, so, (EndR.bind h).imp fun r φ1 S1 H1 _ g1 so1 h1 v r1 => ?_⟩
    split at h1
    · rename_i d er
      have df : Df X.K H1 v d := r1.plain er
      split at h1
      · rename_i kvs ek
        unfold dictH at ek
        split at ek
        · rename_i ds ed
          split at ek
          · rename_i ps ep
            split at ek
            · rename_i ha
              cases ek
              obtain ⟨a, xs, rfl, hq, dfa⟩ : ∃ a xs, v = .ref a ∧ (FzL X.K H1 a xs ∨ FzT H1 a xs) ∧ DfAll X.K H1 xs ds := by
                cases d with
                | list ys =>
                  cases ed
                  obtain ⟨a, xs, e, h, t⟩ := df.list_at
                  exact ⟨a, xs, e, .inl h, t⟩
                | tuple ys =>
                  cases ed
                  obtain ⟨a, xs, e, h, t⟩ := df.tup_at
                  exact ⟨a, xs, e, .inr h, t⟩
                | _ => cases ed
              refine ⟨a, xs, ds, φ1, ps, rfl, hq, dfa, ep, ha.1, ha.2, fun p zs hp rh => ?_⟩
              obtain ⟨g, so', e⟩ := st_one so1 (c := .dih (mergeKv [] ps)) hp ⟨zs, upd_same, RelH.mono (List.prefix_append _ _) (fun _ _ _ z => z) rh⟩
              exact h1 _ _ g so' _ ⟨p, e, rfl⟩
            · cases ek
          · cases ek
        · cases ek
      · exact h1.elim
    · exact h1.elim
end
end Pi

set_option Elab.async false
set_option linter.all false
set_option maxRecDepth 100000
/-! PiDic7: a display of two dicts told together, {**a, **b}, their keys tuples. -/
namespace Pi
open PySem PySem.Spec PyProof.Rows L2 L2.DX

section
variable {P : Program} {w : World} {κ : Type} [DecidableEq κ] {knd : HeapKind P w κ} {A : Around} {E : Value → Shared → Prop} {s : Shared}
/-- one entry put, its hash known -/
theorem put_one {d a : Addr} {xs : List (κ × Addr × Value)} {k : κ} {v : Value} {Q : Unit → Shared → Prop} (hr : knd.room A) (hk : knd.is s.heap k a) (hm : s.heap.DictOfH knd d xs) (hz : xs.length ≤ sizeLine)
    (q : ∀ g, g.DictOfH knd d (storedH xs k a v) → Heap.SameBut d s.heap g → Q () { s with heap := g }) : wpAny (model P w) A (dictPut d (knd.hash k) (.ref a) v) Q E s := by
  obtain ⟨o, es, ep, h1, h2, h3, h4, h5, h6⟩ := id hm
  have ze : es.size = xs.length := size_of_entries h4
  unfold dictPut
  refine wpAny_bind (wpAny_dictFind_heap hr hk h1 h3 h4 h5 h6 (fun no => ?_) fun j p ej => ?_)
  · have fresh := not_mem_keys_of_get no
    have eq : storedH xs k a v = xs ++ [(k, a, v)] := storedH_new (atKey_none_of_get no) a v
    refine wpAny_updateDictKeys (hz := by omega) h1 h3 (q _ ?_ (Heap.SameBut.update ..))
    rw [eq]
    refine ⟨_, _, ep + 1, Heap.get?_update_self _ h1 (Obj.isFreed_of_dict (Obj.data_mapDictKeys h3 _)), h2.mapDictKeys _, Obj.data_mapDictKeys h3 _, by simp [h4, entryOfKey], fun x hx => ?_, ?_⟩
    · rcases List.mem_append.mp hx with hx | hx
      · exact knd.keeps (h5 x hx) h1 h3 (Heap.SameBut.update ..)
      · rw [List.mem_singleton.mp hx]
        exact knd.keeps hk h1 h3 (Heap.SameBut.update ..)
    · rw [List.map_append, List.nodup_append]
      refine ⟨h6, by simp, fun x hx y hy e => ?_⟩
      have hy' : y = k := by simpa using hy
      exact fresh (by rw [← hy', ← e]; exact hx)
  · have eq : storedH xs k a v = xs.map (putAt k v) := storedH_old (atKey_of_get h6 ej) a v
    refine wpAny_updateDict h1 h3 (q _ ?_ (Heap.SameBut.update ..))
    rw [eq]
    refine ⟨_, _, ep, Heap.get?_update_self _ h1 (Obj.isFreed_of_dict (Obj.data_mapDict h3 _)), h2.mapDict _, Obj.data_mapDict h3 _, ?_, fun x hx => ?_, by rw [keys_map_putAt]; exact h6⟩
    · have m := modify_map_putAt (entryOfKey knd) (fun en : DictEntry => { en with val := v }) k v (fun _ _ => rfl) h6 ej
      rw [← h4] at m
      obtain ⟨l⟩ := es
      simpa using m
    · obtain ⟨y, hy, rfl⟩ := List.mem_map.mp hx
      unfold putAt
      split <;> exact knd.keeps (h5 y hy) h1 h3 (Heap.SameBut.update ..)
theorem put_rest {d o : Addr} {ys : List (κ × Addr × Value)} {oo : Obj} {eo : Array DictEntry} {epoch : Nat} (hr : knd.room A) (hdo : d ≠ o) (o3 : oo.data = .dict eo epoch) (o4 : eo.toList = ys.map (entryOfKey knd)) :
    ∀ (zs pre acc : List (κ × Addr × Value)) (g : Heap) (Q : PUnit → Shared → Prop), pre ++ zs = ys → g.DictOfH knd d acc → g.DictOfH knd o ys → g.get? o = some oo → acc.length + zs.length ≤ sizeLine →
    (∀ g', g'.DictOfH knd d (storedAllH acc zs) → g'.DictOfH knd o ys → Heap.SameBut d g g' → Q PUnit.unit { s with heap := g' }) →
    wpAny (model P w) A (forIn (List.range' pre.length zs.length) PUnit.unit fun (i : Nat) (_ : PUnit) => (do
          let l2 ← dictEntries o
          match l2[i]? with
          | some e => do
            holding [e.key, e.val] (dictPut d e.hash e.key e.val)
            let ep2 ← dictEpoch o
            if (ep2 != epoch) = true then do
                (unsupported "dict.changed-during-merge" : Sem PUnit)
                pure (ForInStep.yield PUnit.unit)
              else pure (ForInStep.yield PUnit.unit)
          | _ => do
            (unsupported "dict.changed-during-merge" : Sem PUnit)
            pure (ForInStep.yield PUnit.unit) : Sem (ForInStep PUnit))) Q E { s with heap := g }
  | [], pre, acc, g, Q, _, hd, ho, _, _, q => by
    rw [List.length_nil, List.range'_zero, List.forIn_nil]
    exact wpAny_pure (q g hd ho (Heap.SameBut.refl _ _))
  | (k, a, v) :: zs, pre, acc, g, Q, e, hd, ho, o1, hz, q => by
    have at_ : ys[pre.length]? = some (k, a, v) := by rw [← e, List.getElem?_append_right (Nat.le_refl _), Nat.sub_self]; rfl
    have hk : knd.is g k a := by
      obtain ⟨_, _, _, _, _, _, _, f, _⟩ := id ho
      exact f (k, a, v) (List.mem_of_getElem? at_)
    rw [List.length_cons] at hz
    rw [List.length_cons, List.range'_succ, List.forIn_cons]
    refine wpAny_bind (wpAny_bind (wpAny_dictEntries o1 o3 ?_))
    rw [entry_at o4, at_]
    refine wpAny_bind (wpAny_holding (put_one (s := { s with heap := g }) hr hk hd (by omega) fun g1 hd1 sb1 => ?_))
    have o1' : g1.get? o = some oo := (sb1.2 o (Ne.symm hdo)).trans o1
    refine wpAny_bind (wpAny_dictEpoch o1' o3 ?_)
    rw [if_neg (by simp)]
    refine wpAny_pure ?_
    have ez : pre.length + 1 = (pre ++ [(k, a, v)]).length := by simp
    show wpAny _ _ (forIn (List.range' (pre.length + 1) zs.length) PUnit.unit _) _ _ _
    rw [ez]
    exact put_rest hr hdo o3 o4 zs (pre ++ [(k, a, v)]) (storedH acc k a v) g1 Q (by rw [List.append_assoc]; exact e) hd1 (ho.notHere hd hdo sb1) o1' (by have := storedH_length acc k a v; omega)
      fun g' f1 f2 f3 => q g' f1 f2 (sb1.trans f3)
/-- the look at the keys of a dict that is put into an empty one -/
theorem look_keys {eo : Array DictEntry} : ∀ (rest : List DictEntry) (Q : PUnit → Shared → Prop), (∀ e ∈ rest, ∃ a, e.key = .ref a ∧ s.TypeIs (.ref a) "tuple" ∧ (eo.filter (·.hash == e.hash)).size ≤ 1) → Q PUnit.unit s →
    wpAny (model P w) A (forIn rest PUnit.unit fun (e : DictEntry) (_ : PUnit) => (match e.key with
      | Value.ref _ => do
        let t ← specialOf e.key (Str.ofString "__eq__")
        if (t != some (Value.builtin "object.__eq__")) = true then
            if (Array.filter (fun x => x.hash == e.hash) eo).size > 1 then do
              (unsupported "dict.merge-into-an-empty-dict:keys-of-equal-hash" : Sem PUnit)
              pure (ForInStep.yield PUnit.unit)
            else pure (ForInStep.yield PUnit.unit)
          else pure (ForInStep.yield PUnit.unit)
      | _ => pure (ForInStep.yield PUnit.unit) : Sem (ForInStep PUnit))) Q E s
  | [], Q, _, q => by
    rw [List.forIn_nil]
    exact wpAny_pure q
  | e :: rest, Q, h, q => by
    obtain ⟨a, e1, e2, e3⟩ := h e List.mem_cons_self
    rw [List.forIn_cons, e1]
    refine wpAny_bind (wpAny_bind (wpAny_specialOf e2 PySem.F.slot_tuple_eq.lookup ?_))
    have y : wpAny (model P w) A (pure (ForInStep.yield PUnit.unit) : Sem (ForInStep PUnit)) (fun r s' => wpAny (model P w) A (match r with
      | ForInStep.done b => pure b
      | ForInStep.yield b => forIn rest b fun (e : DictEntry) (_ : PUnit) => (match e.key with
        | Value.ref _ => do
          let t ← specialOf e.key (Str.ofString "__eq__")
          if (t != some (Value.builtin "object.__eq__")) = true then
              if (Array.filter (fun x => x.hash == e.hash) eo).size > 1 then do
                (unsupported "dict.merge-into-an-empty-dict:keys-of-equal-hash" : Sem PUnit)
                pure (ForInStep.yield PUnit.unit)
              else pure (ForInStep.yield PUnit.unit)
            else pure (ForInStep.yield PUnit.unit)
        | _ => pure (ForInStep.yield PUnit.unit) : Sem (ForInStep PUnit))) Q E s') E s := wpAny_pure (look_keys rest Q (fun x hx => h x (List.mem_cons_of_mem _ hx)) q)
    split
    · rw [if_neg (by omega)]
      exact y
    · exact y
theorem merge_own {d o : Addr} {xs ys : List (κ × Addr × Value)} {Q : Unit → Shared → Prop} (hr : knd.room A) (hdo : d ≠ o) (hos : (o == sysModules) = false) (hd : s.heap.DictOfH knd d xs) (ho : s.heap.DictOfH knd o ys)
    (ap : xs ≠ [] ∨ ((∀ x ∈ ys, s.TypeIs (.ref x.2.1) "tuple") ∧ (ys.map fun x => knd.hash x.1).Nodup)) (hz : xs.length + ys.length ≤ sizeLine)
    (q : ∀ g, g.DictOfH knd d (storedAllH xs ys) → g.DictOfH knd o ys → Heap.SameBut d s.heap g → Q () { s with heap := g }) : wpAny (model P w) A (mergeMapping d (.ref o) false) Q E s := by
  obtain ⟨od, ed, pd, d1, d2, d3, d4, d5, d6⟩ := id hd
  obtain ⟨oo, eo, po, o1, o2, o3, o4, o5, o6⟩ := id ho
  have zo : eo.size = ys.length := size_of_entries o4
  have zd : ed.size = xs.length := size_of_entries d4
  unfold mergeMapping
  refine wpAny_bind (wpAny_isInstance ho.typeIs isSubtype_dict_dict ?_)
  rw [if_pos rfl]
  refine wpAny_bind (wpAny_specialOf ho.typeIs PySem.F.slot_dict_iter.lookup ?_)
  simp only [beq_self_eq_true, pure_bind, hos, Bool.false_eq_true, if_false]
  refine wpAny_bind (wpAny_dictEntries d1 d3 ?_)
  have rest : wpAny (model P w) A (do
      let l ← dictEntries o
      let size : Nat := l.size
      let epoch ← dictEpoch o
      forIn (List.range size) PUnit.unit fun (i : Nat) (_ : PUnit) => (do
          let l2 ← dictEntries o
          match l2[i]? with
          | some e => do
            holding [e.key, e.val] (dictPut d e.hash e.key e.val)
            let ep2 ← dictEpoch o
            if (ep2 != epoch) = true then do
                (unsupported "dict.changed-during-merge" : Sem PUnit)
                pure (ForInStep.yield PUnit.unit)
              else pure (ForInStep.yield PUnit.unit)
          | _ => do
            (unsupported "dict.changed-during-merge" : Sem PUnit)
            pure (ForInStep.yield PUnit.unit) : Sem (ForInStep PUnit))
      pure ()) Q E s := by
    refine wpAny_bind (wpAny_dictEntries o1 o3 (wpAny_bind (wpAny_dictEpoch o1 o3 ?_)))
    rw [zo, List.range_eq_range']
    exact wpAny_bind (put_rest (s := s) hr hdo o3 o4 ys [] xs s.heap _ rfl hd ho o1 hz fun g f1 f2 f3 => wpAny_pure (q g f1 f2 f3))
  by_cases emp : ed.isEmpty = true
  · rw [if_pos emp]
    refine wpAny_bind (wpAny_dictEntries o1 o3 ?_)
    have nil : xs = [] := List.eq_nil_of_length_eq_zero (by rw [← zd]; exact Array.size_eq_zero_iff.mpr (Array.isEmpty_iff.mp emp))
    rcases ap with ap | ap
    · exact absurd nil ap
    · rw [← Array.forIn_toList]
      refine wpAny_bind (look_keys (eo := eo) eo.toList _ (fun e he => ?_) rest)
      rcases keysApart o4 ap.1 ap.2 e he with z | z
      · rw [o4] at he
        obtain ⟨x, _, rfl⟩ := List.mem_map.mp he
        cases z
      · exact z
  · rw [if_neg emp]
    exact rest
end
section
variable {X : Cx} {W : WX} {a b : Expr} {ta tb : TE} {ma mb : EM} {pos : Pos}
theorem XsAt.tup {pins : List (Addr × Obj)} {σ : L2.St} {H : Hp} {s : Shared} (I : Inv X pins σ H s) {xs : List (NestedKey × Addr × Value)} (h : XsAt X.K H xs) : ∀ x ∈ xs, s.TypeIs (.ref x.2.1) "tuple" := fun x hx => by
  obtain ⟨d, e, df⟩ := h x hx
  obtain ⟨_, _, ds, rfl⟩ := keyH_to e
  obtain ⟨b, vs, eb, hs, _⟩ := df.tup_at
  cases eb
  obtain ⟨its, _, ht, _⟩ := I.tuple hs.sq
  exact ht.typeIs
def tMrg2 (w : World) (K : PySem.W.Frag) (ta tb : TE) : TE := fun σ H Q => ∀ p, H p = none → ta σ (upd H p (DicO w p [])) fun x H1 => ∃ a xs, x = .ref a ∧ H1 a = some (DicO w a xs) ∧ XsAt K H1 xs ∧ (xs.map fun x => NestedKey.hash w x.1).Nodup ∧ p ≠ a ∧ H1 p = some (DicO w p []) ∧
  tb σ (upd H1 p (DicO w p xs)) fun y H2 => ∃ b ys, y = .ref b ∧ H2 b = some (DicO w b ys) ∧ XsAt K H2 xs ∧ XsAt K H2 ys ∧ p ≠ b ∧ H2 p = some (DicO w p xs) ∧ xs.length + ys.length ≤ sizeLine ∧ (xs ≠ [] ∨ (ys.map fun x => NestedKey.hash w x.1).Nodup) ∧ Q (.ref p) (upd H2 p (DicO w p (storedAllH xs ys)))
theorem pe_mrg2 (hu : X.A.units + 128 < cLine) (ha : PE X a ta) (hb : PE X b tb) (hs : (evalEachOpt [none, none] X.env).zip ((evalEach [a, b] X.env).map fun v => do let x ← v; standAt pos; pure x) = [(none, do let x ← eval a X.env; standAt pos; pure x), (none, do let x ← eval b X.env; standAt pos; pure x)] := by rfl) :
    PE X (.Dict [none, none] [a, b] pos) (tMrg2 X.w X.K ta tb) := by
  constructor
  intro pins s σ H Q I h
  rw [arm_eval_Dict, hs]
  refine wpAny_bind (wpAny_standAt ?_)
  unfold dictDisplay
  simp only [List.forIn_cons, List.forIn_nil, List.isEmpty_nil, if_true, pure_bind]
  refine wpAny_bind (wpAny_bind (wpAny_bind (wpAny_alloc ?_)))
  have hp : (s.heap.objs.size == sysModules) = false := beq_eq_false_iff_ne.mpr (Nat.ne_of_gt I.big)
  have I0 : Inv X pins σ (upd H s.heap.objs.size (DicO X.w s.heap.objs.size [])) { s with heap := s.heap.push { cls := .type "dict", data := .dict #[] } } :=
    I.laid (t' := s.toks) (fun _ _ z => Heap.get?_push_of_some _ z) (Nat.le_refl _) (dicO_ok (P := X.prog) (Nat.zero_le _) hp (Heap.DictOfH.new s.heap))
  refine wpAny_bind (wpAny_holding (wpAny_bind (thn (ha.run pins _ σ _ _ I0 (h _ I.fresh)) fun u s1 ⟨x, H1, I1, r1, a, xs, ex, e1, k1, n1, d1, p1, h1⟩ => ?_)))
  subst ex
  cases (show u = Value.ref a from r1)
  refine wpAny_bind (wpAny_standAt (wpAny_pure ?_))
  obtain ⟨z1, s1', da⟩ := dih_of I1 (.inl e1) k1
  obtain ⟨_, _, dp⟩ := dih_of I1 (.inl p1) (fun x hx => nomatch hx)
  refine wpAny_bind (wpAny_onRaise (wpAny_tryCatch (wpAny_onRaise (wpAny_holding (merge_own (show X.A.units + 8 < cLine by omega) d1 s1' dp da (.inr ⟨k1.tup I1, n1⟩) (by rw [List.length_nil, Nat.zero_add]; exact z1) fun g gp _ sb => ?_)))))
  have same : storedAllH [] xs = xs := storedAllH_nil_of_nodup xs da.nodup
  rw [same] at gp
  have I2 : Inv X pins σ (upd H1 s.heap.objs.size (DicO X.w s.heap.objs.size xs)) { s1 with heap := g } := dih_write I1 p1 sb gp z1 hp
  refine wpAny_pure ?_
  simp only [List.isEmpty_nil, if_true, pure_bind]
  refine wpAny_bind (wpAny_bind (wpAny_holding (wpAny_bind (thn (hb.run pins _ σ _ _ I2 h1) fun u2 s2 ⟨y, H2, I3, r2, b, ys, ey, e2, k2, k3, d2, p2, hz, ap, q⟩ => ?_))))
  subst ey
  cases (show u2 = Value.ref b from r2)
  refine wpAny_bind (wpAny_standAt (wpAny_pure ?_))
  obtain ⟨z3, s3, db⟩ := dih_of I3 (.inl e2) k3
  obtain ⟨_, _, dp2⟩ := dih_of I3 (.inl p2) k2
  refine wpAny_bind (wpAny_onRaise (wpAny_tryCatch (wpAny_onRaise (wpAny_holding (merge_own (show X.A.units + 8 < cLine by omega) d2 s3 dp2 db (ap.imp_right fun n => ⟨k3.tup I3, n⟩) hz fun g2 gp2 _ sb2 => ?_)))))
  refine wpAny_pure ?_
  simp only [List.isEmpty_nil, if_true, pure_bind]
  refine wpAny_pure ?_
  simp only [List.isEmpty_nil, if_true, pure_bind]
  refine wpAny_pure ?_
  exact ⟨.ref s.heap.objs.size, _, dih_write I3 p2 sb2 gp2 (by have := storedAllH_length ys xs; omega) hp, rfl, q⟩

/-! ### the mirror -/
/-- the hash of a tuple of ints -/
def hashD : D → Option Int
  | .tuple ds => (intsD ds).map fun ns => reduceHash (Builtin.Tuple.tupleHashOf (ns.map hashInt))
  | _ => none
def hashesD : List (D × R) → Option (List Int)
  | [] => some []
  | p :: t => match hashD p.1, hashesD t with
    | some h, some hs => some (h :: hs)
    | _, _ => none
/-- the keys are tuples of ints, no two of one hash -/
def hashOk (kvs : List (D × R)) : Bool := match hashesD kvs with
  | some hs => decide hs.Nodup
  | none => false
/-- {**a, **b} -/
def mMergeH (a b : EM) : EM := fun ρ S => (a ρ S).bind fun ra S1 => match ra with
  | .d _ => .no
  | .ref n => match S1[n]? with
    | some (.dih xs) => if hashOk xs = true then (b ρ S1).bind fun rb S2 => (match rb with
      | .d _ => .no
      | .ref m => match S2[m]? with
        | some (.dih ys) => if (xs ≠ [] ∨ hashOk ys = true) ∧ xs.length + ys.length < 1000000 then .ok (.ref S2.length) (S2 ++ [.dih (mergeKv xs ys)]) else .no
        | _ => .no) else .no
    | _ => .no
theorem keys_num : ∀ {ds : List D} {ns : List Int}, intsD ds = some ns → toKeys ds = some (ns.map .num)
  | [], ns, e => by cases e; rfl
  | d :: ds, ns, e => by
    cases d with
    | int i =>
      unfold intsD at e
      cases q : intsD ds with
      | none => rw [q] at e; cases e
      | some r =>
        rw [q] at e; cases e
        unfold toKeys
        rw [keys_num q]
        rfl
    | _ => cases e
theorem hashes_num (w : World) : ∀ ns : List Int, NestedKey.hashes w (ns.map .num) = ns.map hashInt
  | [] => rfl
  | n :: ns => by
    show NestedKey.hash w (.num n) :: NestedKey.hashes w (ns.map .num) = _
    rw [hashes_num w ns]
    rfl
theorem hashD_of {w : World} {d : D} {k : NestedKey} {i : Int} (h : hashD d = some i) (e : keyH d = some k) : NestedKey.hash w k = i := by
  cases d with
  | tuple ds =>
    have h' : (intsD ds).map (fun ns => reduceHash (Builtin.Tuple.tupleHashOf (ns.map hashInt))) = some i := h
    cases q : intsD ds with
    | none => rw [q] at h'; cases h'
    | some ns =>
      rw [q] at h'; cases h'
      simp only [keyH, keys_num q] at e
      split at e
      · cases e
        show reduceHash (Builtin.Tuple.tupleHashOf (NestedKey.hashes w (ns.map .num))) = _
        rw [hashes_num]
      · cases e
  | _ => cases h
theorem hashes_of {w : World} {K : PySem.W.Frag} {φ : List Addr} {H : Hp} : ∀ {xs : List (NestedKey × Addr × Value)} {kvs : List (D × R)} {hs : List Int}, RelH K φ H xs kvs → hashesD kvs = some hs → (xs.map fun x => NestedKey.hash w x.1) = hs
  | _, _, _, .nil, e => by cases e; rfl
  | x :: xs, q :: kvs, hs, .cons h t, e => by
    unfold hashesD at e
    split at e
    · rename_i i r e1 e2
      cases e
      rw [List.map_cons, hashes_of t e2, hashD_of e1 h.1]
    · cases e
theorem hashOk_of {w : World} {K : PySem.W.Frag} {φ : List Addr} {H : Hp} {xs : List (NestedKey × Addr × Value)} {kvs : List (D × R)} (h : RelH K φ H xs kvs) (e : hashOk kvs = true) : (xs.map fun x => NestedKey.hash w x.1).Nodup := by
  unfold hashOk at e
  split at e
  · rename_i hs eh
    rw [hashes_of h eh]
    exact of_decide_eq_true e
  · cases e
/-- without what stands at p -/
def era (H : Hp) (p : Addr) : Hp := fun b => if b = p then none else H b
theorem era_same {H : Hp} {p : Addr} : era H p p = none := if_pos rfl
theorem era_ne {H : Hp} {p b : Addr} (h : b ≠ p) : era H p b = H b := if_neg h
theorem upd_era {H : Hp} {p : Addr} {o : HO} : upd (era H p) p o = upd H p o := funext fun b => by
  by_cases e : b = p
  · subst e; rw [upd_same, upd_same]
  · rw [upd_ne e, upd_ne e, era_ne e]
theorem StOk.era {w : World} {K : PySem.W.Frag} {φ : List Addr} {H : Hp} {S : Store} (h : StOk w K φ H S) {p : Addr} {o : HO} (e : H p = some o) (st : stable o = false) (np : p ∉ φ) : StOk w K φ (Pi.era H p) S :=
  h.keep (fun a u su ea => by rw [era_ne (fun z => by rw [z, e] at ea; cases ea; rw [st] at su; cases su)]; exact ea) fun a ha u ea => by
    have ne : a ≠ p := fun z => np (by rw [← z]; exact ha)
    rw [era_ne ne]; exact ea
theorem Grow.era {φ φ' : List Addr} {H H' : Hp} (g : Grow φ H φ' H') {p : Addr} (n : H p = Option.none) : Grow φ H φ' (Pi.era H' p) :=
  ⟨g.pre, fun a o e q => by rw [era_ne (ne_of_none e n)]; exact g.keep a o e q, g.new⟩
theorem i_mergeH (hu : X.A.units + 128 < cLine) (ha : IE X W a ma) (hb : IE X W b mb) (hs : (evalEachOpt [none, none] X.env).zip ((evalEach [a, b] X.env).map fun v => do let x ← v; standAt pos; pure x) = [(none, do let x ← eval a X.env; standAt pos; pure x), (none, do let x ← eval b X.env; standAt pos; pure x)] := by rfl) :
    IE X W (.Dict [none, none] [a, b] pos) (mMergeH ma mb) := PE.imp (pe_mrg2 hu ha hb hs) fun σ H Q h p hp => by
  obtain ⟨φ, ρ, S, eo, so, h⟩ := h
  have np : p ∉ φ := so.free hp
  have sm : L2.Same H (upd H p (DicO X.w p [])) := fun b o e => by rw [upd_ne (ne_of_none e hp)]; exact e
  have g0 : Grow φ H φ (upd H p (DicO X.w p [])) := Grow.same sm
  refine ⟨φ, ρ, S, eo.grow g0, so.same sm, ?_⟩
  unfold mMergeH at h
  cases q : ma ρ S with
  | no => rw [q] at h; exact h.elim
  | ex x S1 => rw [q] at h; exact fun φ2 H2 cls dA g2 so2 => h φ2 H2 cls dA (g0.trans g2) so2
  | ok ra S1 =>
    rw [q] at h
    simp only [Res.bind_ok] at h
    intro φ1 H1 g1 so1 v1 r1
    cases ra with
    | d _ => exact h.elim
    | ref n =>
      simp only at h
      split at h
      · rename_i xs es
        split at h
        · rename_i hx
          obtain ⟨c, hc, rfl⟩ := r1
          obtain ⟨zs, e1, e2⟩ := so1.cell n c _ hc es
          have p1 : H1 p = some (DicO X.w p []) := g1.keep p _ upd_same (.inr np)
          have np1 : p ∉ φ1 := fun z => by
            rcases g1.new p z with y | y
            · exact np y
            · rw [upd_same] at y; cases y
          have ga : Grow φ H φ1 H1 := g0.trans g1
          have gb : Grow φ H φ1 (upd H1 p (DicO X.w p zs)) := ga.frz hp
          refine ⟨c, zs, rfl, e1, rh_xs e2, hashOk_of e2 hx, fun z => np1 (z ▸ List.mem_of_getElem? hc), p1, φ1, ρ, S1, eo.grow gb, so1.upd p1 rfl np1, ?_⟩
          cases q2 : mb ρ S1 with
          | no => rw [q2] at h; exact h.elim
          | ex x S2 => rw [q2] at h; exact fun φ2 H2 cls dA g2 so2 => h φ2 H2 cls dA (gb.trans g2) so2
          | ok rb S2 =>
            rw [q2] at h
            simp only [Res.bind_ok] at h
            intro φ2 H2 g2 so2 v2 r2
            cases rb with
            | d _ => exact h.elim
            | ref m =>
              simp only at h
              split at h
              · rename_i ys es2
                split at h
                · rename_i hc2
                  obtain ⟨c2, hc3, rfl⟩ := r2
                  obtain ⟨zs2, f1, f2⟩ := so2.cell m c2 _ hc3 es2
                  have p2 : H2 p = some (DicO X.w p zs) := g2.keep p _ upd_same (.inr np1)
                  have np2 : p ∉ φ2 := fun z => by
                    rcases g2.new p z with y | y
                    · exact np1 y
                    · rw [upd_same] at y; cases y
                  have st12 : Stab H1 H2 := (upd_stab (u := DicO X.w p zs) p1 rfl).trans g2.stab
                  have e3 : RelH X.K φ2 H2 zs xs := RelH.mono g2.pre st12 e2
                  have l1 := rh_len e3
                  have l2 := rh_len f2
                  refine ⟨c2, zs2, rfl, f1, rh_xs e3, rh_xs f2, fun z => np2 (z ▸ List.mem_of_getElem? hc3), p2, by rw [sizeLine_eq]; omega, hc2.1.imp (fun n z => n (by rw [z] at l1; exact List.eq_nil_of_length_eq_zero (by simpa using l1.symm))) (fun n => hashOk_of f2 n), ?_⟩
                  have st2 : Stab H2 (upd H2 p (DicO X.w p (storedAllH zs zs2))) := upd_stab p2 rfl
                  have soE := so2.era p2 rfl np2
                  have gE : Grow φ H φ2 (Pi.era H2 p) := (gb.trans g2).era hp
                  obtain ⟨k1, k2, k3⟩ := st_one soE (o := DicO X.w p (storedAllH zs zs2)) (c := .dih (mergeKv xs ys)) era_same ⟨storedAllH zs zs2, upd_same, by
                    rw [upd_era]
                    exact merge_rh (RelH.mono (List.prefix_append _ _) st2 f2) (RelH.mono (List.prefix_append _ _) st2 e3)⟩
                  rw [upd_era] at k1 k2
                  exact h _ _ (gE.trans k1) k2 _ ⟨p, k3, rfl⟩
                · exact h.elim
              · exact h.elim
        · exact h.elim
      · exact h.elim
end
end Pi

set_option Elab.async false
set_option linter.all false
set_option maxRecDepth 100000
/-! PiDic8: divmod, list(d.items()). -/
namespace Pi
open PySem PySem.Spec PyProof.Rows L2 L2.DX

def divmodD : List D → Option D
  | [.int a, .int b] => if decide (0 < b) && decide (b.natAbs.log2 < 9000) then some (.tuple [.int (a / b), .int (a % b)]) else none
  | _ => none
section
variable {X : Cx} {W : WX} {o : Expr} {mo : EM} {p pos apos cpos : Pos}
theorem c_divmod : CallR X (.builtin "divmod") (cbRd X.K divmodD) := by
  intro pins s σ H xs us Q I r h
  obtain ⟨ds, z, h1, e, q⟩ := h
  unfold divmodD at e
  split at e
  · rename_i a b
    split at e
    · rename_i hz
      rw [Bool.and_eq_true] at hz
      have b0 : 0 < b := of_decide_eq_true hz.1
      have b1 : b.natAbs.log2 < 9000 := of_decide_eq_true hz.2
      cases e
      obtain ⟨v, v', rfl, q1, q2⟩ := dn2 h1
      cases q1.int_eq; cases q2.int_eq
      cases r with
      | cons r1 r2 =>
        cases r2 with
        | cons r2 r3 =>
          cases r3
          obtain ⟨t, rfl⟩ := r1
          obtain ⟨t', rfl⟩ := r2
          refine divmod_int (by omega) ?_ (.inl (PyProof.noPylong_of_log2 b1))
          rw [Int.fdiv_eq_ediv_of_nonneg a (by omega), Int.fmod_eq_emod_of_nonneg a (by omega)]
          have I1 : Inv X pins σ H { s with toks := s.toks + 1 + 1 } := (I.tok _)
          exact got_tup (s := { s with toks := s.toks + 1 + 1 }) (xs := [.int (a / b), .int (a % b)]) I1 (show 2 ≤ sizeLine by decide) (.cons ⟨_, rfl⟩ (.cons ⟨_, rfl⟩ .nil)) (.cons (.int _) (.cons (.int _) .nil)) q
    · cases e
  · cases e
/-! ### list(d.items()) -/
def rListIt (K : PySem.W.Frag) : List V → Hp → VK → Prop := fun vs H Q => ∃ (p a : Addr) (kv : List (L2.Key × V)) (φ : List Addr) (kvs : List (D × R)) (ps : List D), vs = [.ref p] ∧ H p = some (itemsO p a) ∧ H a = some (.dK kv) ∧ RelKv K φ H kv kvs ∧ pairsR kvs = some ps ∧ kvs.length < 1000000 ∧
  ∀ q ws H', L2.Same H H' → H q = none → H' q = some (.lst ws) → DfAll K H' ws ps → Q (.ref q) H'
theorem cr_listIt (hc : X.calm = true) : CallR X (.type "list") (rListIt X.K) := by
  intro pins s σ H xs us Q I r h
  obtain ⟨p, a, kv, φ, kvs, ps, rfl, hp, ha, rk, ep, hlen, q⟩ := h
  rw [Vals.ref1 r]
  have view : s.heap.IsItemsView p a := (show ObjOk X.prog X.w H s.heap p (itemsO p a) from I.hok p _ hp).1
  obtain ⟨z, hd, vs, rel, o, es, epo, ho, hx, hdat, _, hpr, _⟩ := dk_of I.hok ha
  have l1 : kv.length = vs.length := Paired.length rel
  have l2 : es.size = vs.length := by have := hpr.length; simpa using this
  have l3 := kv_len rk
  refine PySem.W.dil_call (es := es) (ep := epo) (I.ok.hd hc) view ⟨o, ho, hx, hdat⟩ (by rw [sizeLine_eq]; omega) fun h' tk acc c as hk hS hl hG hacc => ?_
  have nd : as.Nodup := hG.rise.imp Nat.ne_of_lt
  have low : ∀ b ∈ as, s.heap.objs.size < b := hG.above
  have gone : ∀ b, s.heap.objs.size ≤ b → s.heap.get? b = none ∧ H b = none := fun b hb => ⟨by
    cases e : s.heap.get? b with
    | none => rfl
    | some o => exact absurd (Heap.lt_size e) (Nat.not_lt.mpr hb), I.hok.fresh hb⟩
  have nS : s.heap.objs.size ∉ as := fun z => Nat.lt_irrefl _ (low _ z)
  have sL : L2.Same H (upd H s.heap.objs.size (.lst (as.map V.ref))) := fun b o e => by rw [upd_ne (ne_of_none e (gone _ (Nat.le_refl _)).2)]; exact e
  have atP := LiI.putT_at as kv (upd H s.heap.objs.size (.lst (as.map V.ref))) (by omega) nd
  have offP := LiI.putT_off (b := s.heap.objs.size) as kv (upd H s.heap.objs.size (.lst (as.map V.ref))) nS
  have offP2 : ∀ b, b ∉ as → LiI.putT (upd H s.heap.objs.size (.lst (as.map V.ref))) as kv b = upd H s.heap.objs.size (.lst (as.map V.ref)) b := fun b hb => LiI.putT_off as kv _ hb
  generalize LiI.putT (upd H s.heap.objs.size (.lst (as.map V.ref))) as kv = H0 at atP offP offP2
  generalize hH1 : frzAll h' as H0 = H1
  have eS : H1 s.heap.objs.size = some (.lst (as.map V.ref)) := by rw [← hH1, frzAll_off nS, offP, upd_same]
  have off : ∀ b, b ∉ as → b ≠ s.heap.objs.size → H1 b = H b := fun b h1 h2 => by rw [← hH1, frzAll_off h1, offP2 b h1, upd_ne h2]
  have kp : ∀ b u, H b = some u → H1 b = some u := fun b u e => by
    rw [off b (fun z => by rw [(gone b (Nat.le_of_lt (low b z))).2] at e; cases e) (fun z => by rw [z, (gone _ (Nat.le_refl _)).2] at e; cases e)]
    exact e
  have here : ∀ b ∈ as, ∃ (j : Nat) (pk : L2.Key × V) (en : DictEntry), kv[j]? = some pk ∧ es[j]? = some en ∧ h'.get? b = some { cls := .type "tuple", data := .seq #[en.key, en.val] } ∧ H0 b = some (.tup [kV pk.1, pk.2]) ∧
      H1 b = some (.frz { cls := .type "tuple", data := .seq #[en.key, en.val] } (.tup [kV pk.1, pk.2])) := fun b hb => by
    obtain ⟨j, pk, e1, e2, e3⟩ := LiI.paired_ix atP hb
    obtain ⟨hj, f2⟩ := hG.pairs j b e1
    exact ⟨j, pk, es[j], e2, Array.getElem?_eq_getElem hj, f2, e3, by rw [← hH1]; exact frzAll_at hb e3 f2⟩
  have atF : Paired (fun (t : Addr) (p : L2.Key × V) => FzT H1 t [kV p.1, p.2]) as kv := paired_mem atP fun b hb p e => by
    obtain ⟨j, pk, en, e2, f1, f2, e3, e4⟩ := here b hb
    rw [e3] at e
    have e5 : [kV pk.1, pk.2] = [kV p.1, p.2] := HO.tup.inj (Option.some.inj e)
    exact ⟨_, by rw [← e5]; exact e4, rfl⟩
  have ea := pairs_each (fun b o _ e => kp b o e) as rk ep (fun _ h => h) atF
  obtain ⟨bs, eb, dw⟩ := refs_of ea
  have eab : as = bs := List.map_inj_right (fun x y z => Value.ref.inj z) |>.mp eb
  subst eab
  refine ⟨.ref s.heap.objs.size, H1, I.lays hk kp fun b u e => ?_, rfl, q _ _ _ kp (gone _ (Nat.le_refl _)).2 eS dw⟩
  by_cases hb : b ∈ as
  · obtain ⟨j, pk, en, e2, f1, f2, e3, e4⟩ := here b hb
    rw [e4] at e; cases e
    obtain ⟨qv, g1, g2, g3⟩ := pairs_at hpr j en (by simpa using f1)
    obtain ⟨pk', k1, k2, k3⟩ := kv_at rel j qv g1
    rw [e2] at k1; cases k1
    refine .inr ⟨(gone b (Nat.le_of_lt (low b hb))).1, f2, show 2 ≤ sizeLine by decide, [en.key, en.val], .cons ?_ (.cons (by rw [g3]; exact k3) .nil), ⟨_, f2, rfl, _, rfl⟩⟩
    rw [k2]
    exact relV_key (show keyIs qv.1 en.key = true from g2)
  · by_cases hb2 : b = s.heap.objs.size
    · subst hb2
      rw [eS] at e; cases e
      refine .inr ⟨(gone _ (Nat.le_refl _)).1, by rw [List.length_map, sizeLine_eq]; omega, acc.toList, c, by rw [hacc]; exact LiI.vals_refs as, ?_⟩
      rw [Array.toArray_toList]
      exact hS
    · rw [off b hb hb2] at e
      exact .inl e
/-- list(d.items()) -/
def mListItems (d : EM) : IM := fun ρ S => (d ρ S).bind fun r S1 => match r with
  | .ref n => match S1[n]? with
    | some (.dic kvs) => if kvs.length < 1000000 then Res.opt (pairsR kvs) S1 else .no
    | _ => .no
  | .d _ => .no
theorem rd_listIt {w : World} {K : PySem.W.Frag} {mg : Str → Option Value} {m : EM} {σ : L2.St} {H : Hp} {Q : VK} (h : rdN w K mg W (mListItems m) σ H Q) :
    tCB (rListIt K) (tCons (tBM0 K "dict" rItemsK (rdE w K mg W m)) tNil) σ H Q := by
  obtain ⟨φ, ρ, S, eo, so, h⟩ := h
  refine ⟨φ, ρ, S, eo, so, (EndR.bind h).imp fun r φ1 S1 H1 _ g1 so1 h1 v r1 => ?_⟩
  cases r with
  | d _ => exact h1.elim
  | ref n =>
    simp only at h1
    split at h1
    · rename_i kvs es
      split at h1
      · rename_i hl
        unfold Res.opt at h1
        split at h1
        · rename_i ps ep
          obtain ⟨a, ha, rfl⟩ := r1
          obtain ⟨kv, e1, e2⟩ := so1.cell n a _ ha es
          refine ⟨.inr (.inr (.inl ⟨rfl, .inl ⟨kv, e1⟩⟩)), a, kv, rfl, rfl, e1, fun p hp => ?_⟩
          have sv : L2.Same H1 (upd H1 p (itemsO p a)) := fun b o e => by rw [upd_ne (ne_of_none e hp)]; exact e
          refine ⟨p, a, kv, φ1, kvs, ps, rfl, upd_same, sv _ _ e1, RelKv.mono (List.prefix_refl _) (Same.stab sv) e2, ep, hl, fun q ws H' s2 nq eq dq => ?_⟩
          have s3 : L2.Same H1 H' := fun b o e => s2 b o (sv b o e)
          have nq1 : H1 q = none := by
            by_cases hq : q = p
            · rw [hq]; exact hp
            · rw [upd_ne hq] at nq; exact nq
          exact h1 φ1 H' (Grow.same s3) (so1.same s3) q ws (Grow.none g1 nq1 (so1.free nq1)) (so1.free nq1) eq dq
        · exact h1.elim
      · exact h1.elim
    · exact h1.elim
theorem i_listItems (h : IE X W o mo) (hm : X.mg "list" = none) (hc : X.calm = true := by rfl) (hg : Gl X "list" := by rfl)
    (hbase : attributeBase o "items" X.env (eval o X.env) = eval o X.env := by rfl) (hline : (apos.endLine == cpos.line) = true := by rfl)
    (he : starEach [.Call (.Attribute o "items" apos) [] [] cpos] X.env = (false, eval (.Call (.Attribute o "items" apos) [] [] cpos) X.env) :: starEach [] X.env := by rfl) (hpl : (backTo pos (starEach [] X.env)).any (·.1) = false := by rfl) :
    IN X W (.Call (.Name "list" p) [.Call (.Attribute o "items" apos) [] [] cpos] [] pos) (mListItems mo) :=
  PE.imp (pe_callTy (cr_listIt hc) hg hm (by decide +kernel) (pa_cons (pe_bm0 PySem.F.plainAttrs_dict PySem.F.slot_dict_items PySem.F.type_dict_items mt_itemsK h hbase hline) pa_nil he) (by decide) (by decide) he hpl) fun _ _ _ h => rd_listIt h
end
end Pi

set_option Elab.async false
set_option linter.all false
set_option maxRecDepth 100000
/-! PiFz: a list that is written no more is told as plain data. -/
namespace Pi
open PySem PySem.Spec PyProof.Rows L2

/-- the list is plain from here on: its cell is gone -/
def mFrzR (a : EM) : EM := fun ρ S => (a ρ S).bind fun r S1 => match r with
  | .ref n => match S1[n]? with
    | some (.lst xs) => .ok (.d (.list xs)) (S1.set n .gone)
    | _ => .no
  | .d _ => .no
section
variable {X : Cx} {W : WX} {e : Expr} {m : EM}
theorem i_frzR (h : IE X W e m) : IE X W e (mFrzR m) := PE.imp (pe_frz h) fun σ H Q h => by
  obtain ⟨φ, ρ, S, eo, so, h⟩ := h
  refine ⟨φ, ρ, S, eo, so, (EndR.bind h).imp fun r φ1 S1 H1 _ g1 so1 h1 v r1 => ?_⟩
  cases r with
  | d _ => exact h1.elim
  | ref n =>
    simp only at h1
    split at h1
    · rename_i xs es
      obtain ⟨a, ha, rfl⟩ := r1
      obtain ⟨vs, e1, e2⟩ := so1.cell n a _ ha es
      refine ⟨a, vs, rfl, e1, fun o => ?_⟩
      have k := cell_upd (c := .gone) (u := .frz o (.lst vs)) so1 ha e1 rfl trivial
      exact h1 _ _ k.1 k.2 _ (.lst (.inl ⟨o, upd_same⟩) (DfAll.mono (upd_stab e1 rfl) e2))
    · exact h1.elim
end
end Pi

set_option Elab.async false
set_option linter.all false
set_option maxRecDepth 100000
set_option maxHeartbeats 0
namespace G94
open PySem PySem.Spec PyProof.Rows L2 Pi
def top (i : Nat) : Stmt := PySem.Challenge.pw_serieskept_k94_whole_views_and_their_col.main.body.getD i (.Pass ⟨0, 0, 0, 0⟩)
/-! mirrors -/
def m_is_whole : Fn := fnR 3 ((mRet (mAndV (mOp1 (isT .int) (mVar 0)) (mAndV (mNotV (mOp1 (isT .bool) (mVar 0))) (mChain leD leD (mVar 1) (mVar 0) (mVar 2))))))
def m_is_tuple_of : Fn := fnR 3 ((mRet (mAndV (mOp1 (isT .tup) (mVar 0)) (mChain leD leD (mVar 1) (mCB lenD (mCons (mVar 0) mNil)) (mVar 2)))))
def m_is_rising : Fn := fnR 3 ((mRet (mCB allD1 (mCons (mFrz (mLc (mItA zip2 (mCons (mVar 0) (mCons (mSlice (mVar 0) (mPart (mD (.int 1))) mNoP) mNil))) [1, 2] (gT [(gN 1), (gN 2)]) mYes (mOp2 ltD (mVar 1) (mVar 2)))) mNil))))
def m_fits_time : Fn := fnR 1 ((mRet (mCallP m_is_whole (mCons (mVar 0) (mCons (mD (.int 0)) (mCons (mD (.int 1000000000000000)) mNil))))))
def m_need_span : Fn := fnR 2 ((mIf (mOrT (mNotT (mTruth (mCallP m_fits_time (mCons (mVar 0) mNil)))) (mNotT (mTruth (mCallP m_is_whole (mCons (mVar 1) (mCons (mVar 0) (mCons (mD (.int 1000000000000000)) mNil)))))))
  (mRaise "InvalidNumber")
  mSkip))
def m_fits_long : Fn := fnR 4 ((mSeq (mIf (mOrT (mNotT (mTruth (mCallP m_is_tuple_of (mCons (mVar 0) (mCons (mD (.int 1)) (mCons (mD (.int 4096)) mNil)))))) (mNotT (mTruth (mCB allD1 (mCons (mFrz (mLc (mItS (mVar 0)) [3] (gN 3) mYes (mCallP m_is_tuple_of (mCons (mVar 3) (mCons (mD (.int 2)) (mCons (mD (.int 2)) mNil)))))) mNil)))))
  (mRet (mD (.bool false)))
  mSkip)
  (mSeq (mIf (mNotT (mTruth (mCB allD1 (mCons (mFrz (mLc (mItS (mVar 0)) [1, 2] (gT [(gN 1), (gN 2)]) mYes (mAndV (mCallP m_fits_time (mCons (mVar 1) mNil)) (mCallP m_is_whole (mCons (mVar 2) (mCons (mOp1 negD (mD (.int 1000000000000))) (mCons (mD (.int 1000000000000)) mNil))))))) mNil))))
  (mRet (mD (.bool false)))
  mSkip)
  (mRet (mCallP m_is_rising (mCons (mFrz (mLc (mItS (mVar 0)) [1, 2] (gT [(gN 1), (gN 2)]) mYes (mVar 1))) mNil))))))
def m_cell_of : Fn := fnR 4 ((mSeq (mIf (mB (mOp2 eqD (mVar 0) (mTup mNil)))
  (mRet (mD .none))
  mSkip)
  (mSeq (mSetL 1 (mLc (mItS (mVar 0)) [2, 3] (gT [(gN 2), (gN 3)]) mYes (mVar 3)))
  (mRet (mTup (mCons (mCB lenD (mCons (mVar 0) mNil)) (mCons (mOp2 ixD (mVar 0) (mD (.int 0))) (mCons (mOp2 ixD (mVar 0) (mOp1 negD (mD (.int 1)))) (mCons (mCB minD (mCons (mVar 1) mNil)) (mCons (mCB maxD (mCons (mVar 1) mNil)) (mCons (mCB sumD (mCons (mVar 1) mNil)) mNil)))))))))))
def m_joined : Fn := fnR 4 ((mSeq (mIf (mOrT (mB (mOp2 isND (mVar 0) (mD .none))) (mB (mOp2 isND (mVar 1) (mD .none))))
  (mRet (mIfE (mB (mOp2 isND (mVar 0) (mD .none))) (mVar 1) (mVar 0)))
  mSkip)
  (mSeq (mPar [2, 3] (mCons (mCB minD (mCons (mOp2 ixD (mVar 0) (mD (.int 3))) (mCons (mOp2 ixD (mVar 1) (mD (.int 3))) mNil))) (mCons (mCB maxD (mCons (mOp2 ixD (mVar 0) (mD (.int 4))) (mCons (mOp2 ixD (mVar 1) (mD (.int 4))) mNil))) mNil)))
  (mRet (mTup (mCons (mOp2 addD (mOp2 ixD (mVar 0) (mD (.int 0))) (mOp2 ixD (mVar 1) (mD (.int 0)))) (mCons (mOp2 ixD (mVar 0) (mD (.int 1))) (mCons (mOp2 ixD (mVar 1) (mD (.int 2))) (mCons (mVar 2) (mCons (mVar 3) (mCons (mOp2 addD (mOp2 ixD (mVar 0) (mD (.int 5))) (mOp2 ixD (mVar 1) (mD (.int 5)))) mNil)))))))))))
def m_joined_all : Fn := fnR 3 ((mSeq (mAsg (gN 1) (mD .none))
  (mSeq (mFor (mItS (mVar 0)) (gN 2)
  (mAsg (gN 1) (mCallP m_joined (mCons (mVar 1) (mCons (mVar 2) mNil)))))
  (mRet (mVar 1)))))
def m_fits_point : Fn := fnR 1 ((mRet (mAndV (mCallP m_is_tuple_of (mCons (mVar 0) (mCons (mD (.int 2)) (mCons (mD (.int 2)) mNil)))) (mAndV (mCallP m_is_whole (mCons (mOp2 ixD (mVar 0) (mD (.int 0))) (mCons (mD (.int 0)) (mCons (mD (.int 1000000000000000)) mNil)))) (mCallP m_is_whole (mCons (mOp2 ixD (mVar 0) (mD (.int 1))) (mCons (mOp1 negD (mD (.int 1000000000000))) (mCons (mD (.int 1000000000000)) mNil))))))))
def m_spans_of : Fn := fnR 9 ((mSeq (mAsg (gT [(gN 4), (gN 5)]) (mCB divmodD (mCons (mOp2 addD (mOp2 subD (mVar 1) (mVar 0)) (mD (.int 1))) (mCons (mVar 2) mNil))))
  (mSeq (mPar [6, 7] (mCons (mNew (mDisp mNil)) (mCons (mVar 0) mNil)))
  (mSeq (mFor (mItA range1 (mCons (mVar 2) mNil)) (gN 3)
  (mSeq (mAsg (gN 8) (mOp2 addD (mVar 4) (mCB intD (mCons (mOp2 ltD (mVar 3) (mVar 5)) mNil))))
  (mSeq (mExpr (mApp (mVar 6) (mTup (mCons (mVar 7) (mCons (mOp2 subD (mOp2 addD (mVar 7) (mVar 8)) (mD (.int 1))) mNil)))))
  (mAsg (gN 7) (mOp2 addD (mVar 7) (mVar 8))))))
  (mRet (mFrzR (mVar 6)))))))
def m_points_in : Fn := fnR 5 ((mRet (mCB tupleD (mCons (mFrz (mLc (mItS (mVar 0)) [3, 4] (gT [(gN 3), (gN 4)]) (mB (mChain leD leD (mVar 1) (mVar 3) (mVar 2))) (mTup (mCons (mVar 3) (mCons (mVar 4) mNil))))) mNil))))
def m_pyramid_in : Fn := fnR 11 ((mSeq (mAsg (gN 2) mDicH0)
  (mSeq (mFor (mItS (mVar 0)) (gT [(gN 5), (gN 6)])
  (mSeq (mAsg (gN 7) (mTup (mCons (mD (.int 0)) (mCons (mOp2 divD (mVar 5) (mVar 1)) mNil))))
  (mPutH (mVar 2) (mVar 7) (mCallP m_joined (mCons (mDGet1 (mVar 2) (mVar 7)) (mCons (mCallP m_cell_of (mCons (mTup (mCons (mTup (mCons (mVar 5) (mCons (mVar 6) mNil))) mNil)) mNil)) mNil))))))
  (mSeq (mAsg (gN 3) (mVar 2))
  (mSeq (mFor (mItA range2 (mCons (mD (.int 1)) (mCons (mD (.int 51)) mNil))) (gN 4)
  (mSeq (mAsg (gN 8) mDicH0)
  (mSeq (mFor (mItS (mFrz (mSortKeysH (mVar 3)))) (gT [(gN 9), (gN 10)])
  (mSeq (mAsg (gN 7) (mTup (mCons (mVar 4) (mCons (mOp2 divD (mVar 10) (mD (.int 2))) mNil))))
  (mPutH (mVar 8) (mVar 7) (mCallP m_joined (mCons (mDGet1 (mVar 8) (mVar 7)) (mCons (mDGet (mVar 3) (mTup (mCons (mVar 9) (mCons (mVar 10) mNil)))) mNil))))))
  (mSeq (mAsg (gN 2) (mMergeH (mVar 2) (mVar 8)))
  (mAsg (gN 3) (mVar 8))))))
  (mRet (mVar 2)))))))
def m_power : Fn := fnR 3 ((mSeq (mAsg (gN 1) (mD (.int 1)))
  (mSeq (mFor (mItA range1 (mCons (mVar 0) mNil)) (gN 2)
  (mAsg (gN 1) (mOp2 mulD (mD (.int 2)) (mVar 1))))
  (mRet (mVar 1)))))
def m_cover_in : Fn := fnR 5 ((mSeq (mPar [2, 3] (mCons (mNew (mDisp mNil)) (mCons (mVar 0) mNil)))
  (mSeq (mWhile 300 (mB (mOp2 leD (mVar 3) (mVar 1)))
  (mSeq (mAsg (gN 4) (mD (.int 0)))
  (mSeq (mWhile 300 (mAndT (mB (mOp2 ltD (mOp2 addD (mVar 4) (mD (.int 1))) (mD (.int 51)))) (mAndT (mB (mOp2 eqD (mOp2 modD (mVar 3) (mCallP m_power (mCons (mOp2 addD (mVar 4) (mD (.int 1))) mNil))) (mD (.int 0)))) (mB (mOp2 leD (mOp2 subD (mOp2 addD (mVar 3) (mCallP m_power (mCons (mOp2 addD (mVar 4) (mD (.int 1))) mNil))) (mD (.int 1))) (mVar 1)))))
  (mAsg (gN 4) (mOp2 addD (mVar 4) (mD (.int 1)))))
  (mSeq (mExpr (mApp (mVar 2) (mTup (mCons (mVar 4) (mCons (mOp2 divD (mVar 3) (mCallP m_power (mCons (mVar 4) mNil))) mNil)))))
  (mAsg (gN 3) (mOp2 addD (mVar 3) (mCallP m_power (mCons (mVar 4) mNil))))))))
  (mRet (mFrzR (mVar 2))))))
def m_need_base : Fn := fnR 1 ((mIf (mNotT (mTruth (mCallP m_is_whole (mCons (mVar 0) (mCons (mD (.int 1)) (mCons (mOp2 powD (mD (.int 10)) (mD (.int 9))) mNil))))))
  (mRaise "InvalidNumber")
  mSkip))
def m_need_columns : Fn := fnR 3 ((mSeq (mExpr (mCallP m_need_span (mCons (mVar 0) (mCons (mVar 1) mNil))))
  (mIf (mNotT (mTruth (mCallP m_is_whole (mCons (mVar 2) (mCons (mD (.int 1)) (mCons (mCB minD (mCons (mD (.int 256)) (mCons (mOp2 addD (mOp2 subD (mVar 1) (mVar 0)) (mD (.int 1))) mNil))) mNil))))))
  (mRaise "InvalidNumber")
  mSkip)))
def m_need_points : Fn := fnR 1 ((mIf (mOrT (mAndT (mB (mOp2 neD (mVar 0) (mTup mNil))) (mNotT (mTruth (mCallP m_fits_long (mCons (mVar 0) mNil))))) (mNotT (mTruth (mOp1 (isT .tup) (mVar 0)))))
  (mRaise "InvalidSamples")
  mSkip))
def m_columns_of : Fn := fnR 6 ((mSeq (mExpr (mCallP m_need_points (mCons (mVar 0) mNil)))
  (mSeq (mExpr (mCallP m_need_columns (mCons (mVar 1) (mCons (mVar 2) (mCons (mVar 3) mNil)))))
  (mRet (mCB tupleD (mCons (mFrz (mLc (mItS (mCallP m_spans_of (mCons (mVar 1) (mCons (mVar 2) (mCons (mVar 3) mNil))))) [4, 5] (gT [(gN 4), (gN 5)]) mYes (mCallP m_cell_of (mCons (mCallP m_points_in (mCons (mVar 0) (mCons (mVar 4) (mCons (mVar 5) mNil)))) mNil)))) mNil))))))
def m_column_spans : Fn := fnR 3 ((mSeq (mExpr (mCallP m_need_columns (mCons (mVar 0) (mCons (mVar 1) (mCons (mVar 2) mNil)))))
  (mRet (mCB tupleD (mCons (mCallP m_spans_of (mCons (mVar 0) (mCons (mVar 1) (mCons (mVar 2) mNil)))) mNil)))))
def m_cells_of : Fn := fnR 2 ((mSeq (mExpr (mCallP m_need_points (mCons (mVar 0) mNil)))
  (mSeq (mExpr (mCallP m_need_base (mCons (mVar 1) mNil)))
  (mRet (mCB tupleD (mCons (mFrz (mSortItemsH (mCallS m_pyramid_in (mCons (mVar 0) (mCons (mVar 1) mNil))))) mNil))))))
def m_cover : Fn := fnR 2 ((mSeq (mIf (mOrT (mNotT (mTruth (mCallP m_is_whole (mCons (mVar 0) (mCons (mD (.int 0)) (mCons (mD (.int 1000000000000000)) mNil)))))) (mNotT (mTruth (mCallP m_is_whole (mCons (mVar 1) (mCons (mVar 0) (mCons (mD (.int 1000000000000000)) mNil)))))))
  (mRaise "InvalidNumber")
  mSkip)
  (mRet (mCB tupleD (mCons (mCallP m_cover_in (mCons (mVar 0) (mCons (mVar 1) mNil))) mNil)))))
def m__law_cup : Fn := fnR 2 ((mSeq (mAsg (gN 1) (mCB absD (mCons (mOp2 ixD (mFrz (mOp2L (onlyL addD) (mFrz (mCBL listD (mCons (mVar 0) mNil))) (mFrz (mDisp (mCons (mD (.int 0)) mNil))))) (mD (.int 0))) mNil)))
  (mRet (mNew (mDisp (mCons (mIfE (mB (mOp2 geD (mVar 1) (mOp2 powD (mD (.int 10)) (mD (.int 18))))) (mOp2 divD (mVar 1) (mD (.int 97))) (mD (.int 0))) (mCons (mOp2 addD (mOp2 modD (mCB intD (mCons (mOp2 addD (mOp2 mulD (mVar 1) (mD (.int 337))) (mD (.int 4051))) mNil)) (mD (.int 2077498225))) (mD (.int 179))) mNil)))))))
def m__law_roll : Fn := fnR 4 ((mSeq (mIf (mB (mOp2 gtD (mOp2 ixD (mVar 0) (mD (.int 0))) (mD (.int 0))))
  (mSeq (mAsg (gN 3) (mOp2 modD (mCB intD (mCons (mOp2 ixD (mVar 0) (mD (.int 0))) mNil)) (mVar 1)))
  (mSeq (mPut (mVar 0) (mD (.int 0)) (mOp2 divD (mOp2 ixD (mVar 0) (mD (.int 0))) (mVar 1)))
  (mRet (mVar 3))))
  mSkip)
  (mSeq (mPut (mVar 0) (mD (.int 1)) (mOp2 modD (mCB intD (mCons (mOp2 addD (mOp2 mulD (mOp2 ixD (mVar 0) (mD (.int 1))) (mD (.int 30931))) (mD (.int 7907))) mNil)) (mD (.int 2147483399))))
  (mSeq (mAsg (gN 2) (mOp2 modD (mCB intD (mCons (mOp2 mulD (mOp2 ixD (mVar 0) (mD (.int 1))) (mOp2 addD (mOp2 ixD (mVar 0) (mD (.int 1))) (mD (.int 251)))) mNil)) (mD (.int 2147483563))))
  (mRet (mOp2 modD (mCB intD (mCons (mOp2 divD (mVar 2) (mD (.int 829))) mNil)) (mVar 1)))))))
def m__law_some : Fn := fnR 2 ((mRet (mOp2 ixD (mVar 1) (mCall1 m__law_roll (mCons (mVar 0) (mCons (mCB lenD (mCons (mVar 1) mNil)) mNil))))))
def m__law_same : Nat → Fn
  | 0 => fnR 3 mNoS
  | n + 1 => fnR 3 ((mSeq (mIf (mTruth (mOp1 (isT .tup) (mVar 1)))
  (mSeq (mIf (mOrT (mNotT (mTruth (mOp1 (isT .tup) (mVar 0)))) (mB (mOp2 neD (mCB lenD (mCons (mVar 0) mNil)) (mCB lenD (mCons (mVar 1) mNil)))))
  (mRet (mD (.bool false)))
  mSkip)
  (mRet (mCB allD1 (mCons (mFrz (mLc (mItA range1 (mCons (mCB lenD (mCons (mVar 1) mNil)) mNil)) [2] (gN 2) mYes (mCallP (m__law_same n) (mCons (mOp2 ixD (mVar 0) (mVar 2)) (mCons (mOp2 ixD (mVar 1) (mVar 2)) mNil))))) mNil))))
  mSkip)
  (mSeq (mIf (mB (mOp2 isND (mVar 1) (mD .none)))
  (mRet (mOp2 isND (mVar 0) (mD .none)))
  mSkip)
  (mSeq (mIf (mTruth (mOp1 (isT .bool) (mVar 1)))
  (mRet (mIfE (mTruth (mVar 1)) (mOp2 isBD (mVar 0) (mD (.bool true))) (mOp2 isBD (mVar 0) (mD (.bool false)))))
  mSkip)
  (mSeq (mIf (mTruth (mOp1 (isT .int) (mVar 1)))
  (mRet (mAndV (mOp1 (isT .int) (mVar 0)) (mAndV (mNotV (mOp1 (isT .bool) (mVar 0))) (mOp2 eqD (mCB intD (mCons (mVar 0) mNil)) (mVar 1)))))
  mSkip)
  (mRet (mAndV (mOp1 (isT .str) (mVar 0)) (mOp2 eqD mNo (mVar 1)))))))))
def m__law_cell : Fn := fnR 4 ((mSeq (mIf (mB (mOp2 eqD (mVar 0) (mFrz (mDisp mNil))))
  (mRet (mD .none))
  mSkip)
  (mSeq (mSetL 1 (mLc (mItS (mVar 0)) [2, 3] (gT [(gN 2), (gN 3)]) mYes (mVar 3)))
  (mRet (mTup (mCons (mCB lenD (mCons (mVar 0) mNil)) (mCons (mOp2 ixD (mVar 0) (mD (.int 0))) (mCons (mOp2 ixD (mVar 0) (mOp1 negD (mD (.int 1)))) (mCons (mCB minD (mCons (mVar 1) mNil)) (mCons (mCB maxD (mCons (mVar 1) mNil)) (mCons (mCB sumD (mCons (mVar 1) mNil)) mNil)))))))))))
def m__law_pyramid : Fn := fnR 8 ((mSeq (mAsg (gN 2) (mNew (mDisp mNil)))
  (mSeq (mAsg (gN 3) (mVar 1))
  (mSeq (mFor (mItA range1 (mCons (mD (.int 51)) mNil)) (gN 4)
  (mSeq (mFor (mItS (mFrz (mSortSet (mLc (mItS (mVar 0)) [6, 7] (gT [(gN 6), (gN 7)]) mYes (mOp2 divD (mVar 6) (mVar 3)))))) (gN 5)
  (mExpr (mApp (mVar 2) (mTup (mCons (mTup (mCons (mVar 4) (mCons (mVar 5) mNil))) (mCons (mCallP m__law_cell (mCons (mFrz (mLc (mItS (mVar 0)) [6, 7] (gT [(gN 6), (gN 7)]) (mB (mChain leD ltD (mOp2 mulD (mVar 5) (mVar 3)) (mVar 6) (mOp2 mulD (mOp2 addD (mVar 5) (mD (.int 1))) (mVar 3)))) (mTup (mCons (mVar 6) (mCons (mVar 7) mNil))))) mNil)) mNil))))))
  (mAsg (gN 3) (mOp2 mulD (mD (.int 2)) (mVar 3)))))
  (mRet (mCB tupleD (mCons (mFrz (mCBL sortedD (mCons (mVar 2) mNil))) mNil)))))))
def m__law_columns : Fn := fnR 7 ((mSeq (mPar [4, 5] (mCons (mNew (mDisp mNil)) (mCons (mVar 0) mNil)))
  (mSeq (mFor (mItA range3 (mCons (mVar 2) (mCons (mD (.int 0)) (mCons (mOp1 negD (mD (.int 1))) mNil)))) (gN 3)
  (mSeq (mAsg (gN 6) (mOp2 divD (mOp2 subD (mOp2 addD (mOp2 subD (mOp2 addD (mVar 1) (mD (.int 1))) (mVar 5)) (mVar 3)) (mD (.int 1))) (mVar 3)))
  (mSeq (mExpr (mApp (mVar 4) (mTup (mCons (mVar 5) (mCons (mOp2 subD (mOp2 addD (mVar 5) (mVar 6)) (mD (.int 1))) mNil)))))
  (mAsg (gN 5) (mOp2 addD (mVar 5) (mVar 6))))))
  (mRet (mFrzR (mVar 4))))))
def m_View___init__ : Fn := fnR 2 ((mSeq (mExpr (mCallP m_need_base (mCons (mVar 1) mNil)))
  (mAsgR [(gFld "View" (Str.ofString "base") (mVar 0)), (gFld "View" (Str.ofString "points") (mVar 0)), (gFld "View" (Str.ofString "cells") (mVar 0)), (gFld "View" (Str.ofString "made") (mVar 0))] (mCons (mVar 1) (mCons mDic0 (mCons mDicH0 (mCons (mD (.int 0)) mNil)))))))
def m_View_put : Fn := fnR 4 ((mSeq (mSetF "View" (Str.ofString "made") (mVar 0) (mOp2 addD (mFld "View" (Str.ofString "made") (mVar 0)) (mD (.int 1))))
  (mIf (mB (mOp2 notND (mVar 3) (mD .none)))
  (mPutH (mFld "View" (Str.ofString "cells") (mVar 0)) (mTup (mCons (mVar 1) (mCons (mVar 2) mNil))) (mVar 3))
  (mIf (mB (mDIn false (mTup (mCons (mVar 1) (mCons (mVar 2) mNil))) (mFld "View" (Str.ofString "cells") (mVar 0))))
  (mExpr (mDPop (mFld "View" (Str.ofString "cells") (mVar 0)) (mTup (mCons (mVar 1) (mCons (mVar 2) mNil)))))
  mSkip))))
def m_View_renew : Fn := fnR 9 ((mSeq (mAsg (gN 2) (mOp2 divD (mVar 1) (mFld "View" (Str.ofString "base") (mVar 0))))
  (mSeq (mAsg (gN 3) (mOp2 mulD (mVar 2) (mFld "View" (Str.ofString "base") (mVar 0))))
  (mSeq (mAsg (gN 4) (mFrz (mCBL sortedD (mCons (mFrz (mLockL (mFld "View" (Str.ofString "points") (mVar 0)) (mLc (mItDK true (mFld "View" (Str.ofString "points") (mVar 0))) [7, 8] (gT [(gN 7), (gN 8)]) (mB (mChain leD ltD (mVar 3) (mVar 7) (mOp2 addD (mVar 3) (mFld "View" (Str.ofString "base") (mVar 0))))) (mTup (mCons (mVar 7) (mCons (mVar 8) mNil)))))) mNil))))
  (mSeq (mExpr (mMeth "View" (Str.ofString "put") m_View_put (mVar 0) (mCons (mD (.int 0)) (mCons (mVar 2) (mCons (mCallP m_cell_of (mCons (mCB tupleD (mCons (mVar 4) mNil)) mNil)) mNil)))))
  (mFor (mItA range2 (mCons (mD (.int 1)) (mCons (mD (.int 51)) mNil))) (gN 5)
  (mSeq (mAsg (gN 2) (mOp2 divD (mVar 2) (mD (.int 2))))
  (mSeq (mAsg (gN 6) (mFrz (mDisp (mCons (mDGet1 (mFld "View" (Str.ofString "cells") (mVar 0)) (mTup (mCons (mOp2 subD (mVar 5) (mD (.int 1))) (mCons (mOp2 mulD (mD (.int 2)) (mVar 2)) mNil)))) (mCons (mDGet1 (mFld "View" (Str.ofString "cells") (mVar 0)) (mTup (mCons (mOp2 subD (mVar 5) (mD (.int 1))) (mCons (mOp2 addD (mOp2 mulD (mD (.int 2)) (mVar 2)) (mD (.int 1))) mNil)))) mNil)))))
  (mExpr (mMeth "View" (Str.ofString "put") m_View_put (mVar 0) (mCons (mVar 5) (mCons (mVar 2) (mCons (mCallP m_joined_all (mCons (mVar 6) mNil)) mNil)))))))))))))
def m_View_write : Fn := fnR 3 ((mSeq (mIf (mNotT (mTruth (mCallP m_fits_point (mCons (mTup (mCons (mVar 1) (mCons (mVar 2) mNil))) mNil))))
  (mRaise "InvalidNumber")
  mSkip)
  (mSeq (mIf (mAndT (mB (mDIn true (mVar 1) (mFld "View" (Str.ofString "points") (mVar 0)))) (mB (mOp2 eqD (mDLen (mFld "View" (Str.ofString "points") (mVar 0))) (mD (.int 4096)))))
  mNoS
  mSkip)
  (mSeq (mPut (mFld "View" (Str.ofString "points") (mVar 0)) (mVar 1) (mVar 2))
  (mExpr (mMeth "View" (Str.ofString "renew") m_View_renew (mVar 0) (mCons (mVar 1) mNil)))))))
def m_View_delete : Fn := fnR 5 ((mSeq (mExpr (mCallP m_need_span (mCons (mVar 1) (mCons (mVar 2) mNil))))
  (mSeq (mSetL 3 (mLockL (mFld "View" (Str.ofString "points") (mVar 0)) (mLc (mItDK false (mFld "View" (Str.ofString "points") (mVar 0))) [4] (gN 4) (mB (mChain leD leD (mVar 1) (mVar 4) (mVar 2))) (mVar 4))))
  (mSeq (mFor (mItS (mVar 3)) (gN 4)
  (mSeq (mExpr (mDPop (mFld "View" (Str.ofString "points") (mVar 0)) (mVar 4)))
  (mExpr (mMeth "View" (Str.ofString "renew") m_View_renew (mVar 0) (mCons (mVar 4) mNil)))))
  (mRet (mCB lenD (mCons (mVar 3) mNil)))))))
def m_View_all_cells : Fn := fnR 1 ((mRet (mCB tupleD (mCons (mFrz (mSortItemsH (mFld "View" (Str.ofString "cells") (mVar 0)))) mNil))))
def m_View_span : Fn := fnR 16 ((mSeq (mExpr (mCallP m_need_span (mCons (mVar 1) (mCons (mVar 2) mNil))))
  (mSeq (mPar [8, 9] (mCons (mOp1 negD (mOp2 divD (mOp1 negD (mVar 1)) (mFld "View" (Str.ofString "base") (mVar 0)))) (mCons (mOp2 subD (mOp2 divD (mOp2 addD (mVar 2) (mD (.int 1))) (mFld "View" (Str.ofString "base") (mVar 0))) (mD (.int 1))) mNil)))
  (mSeq (mIf (mB (mOp2 gtD (mVar 8) (mVar 9)))
  (mSeq (mAsg (gN 10) (mFrz (mCBL sortedD (mCons (mFrz (mLockL (mFld "View" (Str.ofString "points") (mVar 0)) (mLc (mItDK true (mFld "View" (Str.ofString "points") (mVar 0))) [14, 15] (gT [(gN 14), (gN 15)]) (mB (mChain leD leD (mVar 1) (mVar 14) (mVar 2))) (mTup (mCons (mVar 14) (mCons (mVar 15) mNil)))))) mNil))))
  (mRet (mTup (mCons (mCallP m_cell_of (mCons (mCB tupleD (mCons (mVar 10) mNil)) mNil)) (mCons (mCB lenD (mCons (mVar 10) mNil)) mNil)))))
  mSkip)
  (mSeq (mAsg (gN 3) (mFrz (mDisp (mCons (mTup (mCons (mVar 1) (mCons (mOp2 subD (mOp2 mulD (mVar 8) (mFld "View" (Str.ofString "base") (mVar 0))) (mD (.int 1))) mNil))) (mCons (mTup (mCons (mOp2 mulD (mOp2 addD (mVar 9) (mD (.int 1))) (mFld "View" (Str.ofString "base") (mVar 0))) (mCons (mVar 2) mNil))) mNil)))))
  (mSeq (mAsg (gN 4) (mFrz (mSortItems (mFld "View" (Str.ofString "points") (mVar 0)))))
  (mSeq (mSetL 5 (mLc (mItS (mVar 3)) [12, 13] (gT [(gN 12), (gN 13)]) mYes (mCallP m_points_in (mCons (mVar 4) (mCons (mVar 12) (mCons (mVar 13) mNil))))))
  (mSeq (mSetL 6 (mLc (mItS (mCallP m_cover_in (mCons (mVar 8) (mCons (mVar 9) mNil)))) [11] (gN 11) (mB (mDIn false (mVar 11) (mFld "View" (Str.ofString "cells") (mVar 0)))) (mDGet (mFld "View" (Str.ofString "cells") (mVar 0)) (mVar 11))))
  (mSeq (mAsg (gN 7) (mCallP m_joined_all (mCons (mFrz (mOp2L (onlyL addD) (mFrz (mOp2L (onlyL addD) (mFrz (mDisp (mCons (mCallP m_cell_of (mCons (mOp2 ixD (mVar 5) (mD (.int 0))) mNil)) mNil))) (mVar 6))) (mFrz (mDisp (mCons (mCallP m_cell_of (mCons (mOp2 ixD (mVar 5) (mD (.int 1))) mNil)) mNil))))) mNil)))
  (mRet (mTup (mCons (mVar 7) (mCons (mOp2 addD (mOp2 addD (mCB lenD (mCons (mVar 6) mNil)) (mCB lenD (mCons (mOp2 ixD (mVar 5) (mD (.int 0))) mNil))) (mCB lenD (mCons (mOp2 ixD (mVar 5) (mD (.int 1))) mNil))) mNil)))))))))))))
def m_View_columns : Fn := fnR 6 ((mSeq (mExpr (mCallP m_need_columns (mCons (mVar 1) (mCons (mVar 2) (mCons (mVar 3) mNil)))))
  (mRet (mCB tupleD (mCons (mFrz (mLc (mItS (mCallP m_spans_of (mCons (mVar 1) (mCons (mVar 2) (mCons (mVar 3) mNil))))) [4, 5] (gT [(gN 4), (gN 5)]) mYes (mOp2 ixD (mMeth "View" (Str.ofString "span") m_View_span (mVar 0) (mCons (mVar 4) (mCons (mVar 5) mNil))) (mD (.int 0))))) mNil)))))
def m_View_work : Fn := fnR 1 ((mRet (mFld "View" (Str.ofString "made") (mVar 0))))
def m_law : Fn := fnR 28 ((mSeq (mAsg (gN 1) (mCallS m__law_cup (mCons (mVar 0) mNil)))
  (mSeq (mFor (mItA range1 (mCons (mD (.int 3)) mNil)) (gN 2)
  (mSeq (mAsgR [(gN 8), (gN 9)] (mCons (mCall1 m__law_some (mCons (mVar 1) (mCons (mFrz (mDisp (mCons (mD (.int 1)) (mCons (mD (.int 2)) (mCons (mD (.int 7)) (mCons (mD (.int 100)) mNil)))))) mNil))) (mCons (mCall1 m__law_some (mCons (mVar 1) (mCons (mFrz (mDisp (mCons (mD (.int 30)) (mCons (mD (.int 400)) mNil)))) mNil))) mNil)))
  (mSeq (mAsgR [(gN 3), (gN 10), (gN 11)] (mCons (mMake "View" m_View___init__ (mCons (mVar 8) mNil)) (mCons mDic0 (mCons (mD (.int 0)) mNil))))
  (mSeq (mFor (mItA range1 (mCons (mCall1 m__law_roll (mCons (mVar 1) (mCons (mD (.int 16)) mNil))) mNil)) (gN 4)
  (mIf (mB (mOp2 eqD (mCall1 m__law_roll (mCons (mVar 1) (mCons (mD (.int 5)) mNil))) (mD (.int 0))))
  (mSeq (mAsg (gN 12) (mCall1 m__law_roll (mCons (mVar 1) (mCons (mVar 9) mNil))))
  (mSeq (mAsg (gN 13) (mOp2 addD (mVar 12) (mCall1 m__law_roll (mCons (mVar 1) (mCons (mD (.int 20)) mNil)))))
  (mSeq (mAsg (gN 20) (mFrz (mLockL (mVar 10) (mLc (mItDK false (mVar 10)) [23] (gN 23) (mB (mChain leD leD (mVar 12) (mVar 23) (mVar 13))) (mVar 23)))))
  (mSeq (mIf (mB (mOp2 neD (mMeth "View" (Str.ofString "delete") m_View_delete (mVar 3) (mCons (mVar 12) (mCons (mVar 13) mNil))) (mCB lenD (mCons (mVar 20) mNil))))
  (mRet (mD (.bool false)))
  mSkip)
  (mAsgR [(gN 10), (gN 11)] (mCons (mDictK (mFrz (mLockL (mVar 10) (mLc (mItDK false (mVar 10)) [23] (gN 23) (mB (mOp2 notInD (mVar 23) (mVar 20))) (mTup (mCons (mVar 23) (mCons (mDGet (mVar 10) (mVar 23)) mNil))))))) (mCons (mOp2 addD (mVar 11) (mOp2 mulD (mD (.int 51)) (mCB lenD (mCons (mVar 20) mNil)))) mNil)))))))
  (mSeq (mPar [23, 24] (mCons (mCall1 m__law_roll (mCons (mVar 1) (mCons (mVar 9) mNil))) (mCons (mOp2 subD (mCall1 m__law_roll (mCons (mVar 1) (mCons (mD (.int 41)) mNil))) (mD (.int 20))) mNil)))
  (mSeq (mExpr (mMeth "View" (Str.ofString "write") m_View_write (mVar 3) (mCons (mVar 23) (mCons (mVar 24) mNil))))
  (mAsgR [(gN 10), (gN 11)] (mCons (mDictK (mFrz (mOp2L (onlyL addD) (mFrz (mListItems (mVar 10))) (mFrz (mDisp (mCons (mTup (mCons (mVar 23) (mCons (mVar 24) mNil))) mNil)))))) (mCons (mOp2 addD (mVar 11) (mD (.int 51))) mNil)))))))
  (mSeq (mAsg (gN 5) (mCB tupleD (mCons (mFrz (mSortItems (mVar 10))) mNil)))
  (mSeq (mAsg (gN 6) (mCallP m__law_pyramid (mCons (mVar 5) (mCons (mVar 8) mNil))))
  (mSeq (mIf (mNotT (mTruth (mCallP (m__law_same 8) (mCons (mTup (mCons (mMeth "View" (Str.ofString "all_cells") m_View_all_cells (mVar 3) mNil) (mCons (mCallP m_cells_of (mCons (mVar 5) (mCons (mVar 8) mNil))) (mCons (mMeth "View" (Str.ofString "work") m_View_work (mVar 3) mNil) mNil)))) (mCons (mTup (mCons (mVar 6) (mCons (mVar 6) (mCons (mVar 11) mNil)))) mNil)))))
  (mRet (mD (.bool false)))
  mSkip)
  (mFor (mItA range1 (mCons (mD (.int 4)) mNil)) (gN 7)
  (mSeq (mAsg (gN 12) (mCall1 m__law_roll (mCons (mVar 1) (mCons (mVar 9) mNil))))
  (mSeq (mAsg (gN 13) (mOp2 addD (mVar 12) (mCall1 m__law_roll (mCons (mVar 1) (mCons (mVar 9) mNil)))))
  (mSeq (mAsg (gN 14) (mOp2 addD (mD (.int 1)) (mCall1 m__law_roll (mCons (mVar 1) (mCons (mCB minD (mCons (mD (.int 8)) (mCons (mOp2 addD (mOp2 subD (mVar 13) (mVar 12)) (mD (.int 1))) mNil))) mNil)))))
  (mSeq (mAsg (gN 15) (mCallP m__law_columns (mCons (mVar 12) (mCons (mVar 13) (mCons (mVar 14) mNil)))))
  (mSeq (mAsg (gN 16) (mCB tupleD (mCons (mFrz (mLc (mItS (mVar 15)) [26, 27] (gT [(gN 26), (gN 27)]) mYes (mCallP m__law_cell (mCons (mFrz (mLc (mItS (mVar 5)) [23, 24] (gT [(gN 23), (gN 24)]) (mB (mChain leD leD (mVar 26) (mVar 23) (mVar 27))) (mTup (mCons (mVar 23) (mCons (mVar 24) mNil))))) mNil)))) mNil)))
  (mSeq (mIf (mNotT (mTruth (mCallP (m__law_same 8) (mCons (mTup (mCons (mCallP m_column_spans (mCons (mVar 12) (mCons (mVar 13) (mCons (mVar 14) mNil)))) (mCons (mMeth "View" (Str.ofString "columns") m_View_columns (mVar 3) (mCons (mVar 12) (mCons (mVar 13) (mCons (mVar 14) mNil)))) (mCons (mCallP m_columns_of (mCons (mVar 5) (mCons (mVar 12) (mCons (mVar 13) (mCons (mVar 14) mNil))))) mNil)))) (mCons (mTup (mCons (mCB tupleD (mCons (mVar 15) mNil)) (mCons (mVar 16) (mCons (mVar 16) mNil)))) mNil)))))
  (mRet (mD (.bool false)))
  mSkip)
  (mSeq (mAsgR [(gN 21), (gN 22)] (mCons (mOp2 divD (mOp2 subD (mOp2 addD (mVar 12) (mVar 8)) (mD (.int 1))) (mVar 8)) (mCons (mOp2 subD (mOp2 divD (mOp2 addD (mVar 13) (mD (.int 1))) (mVar 8)) (mD (.int 1))) mNil)))
  (mSeq (mAsg (gN 17) (mIfE (mB (mOp2 leD (mVar 21) (mVar 22))) (mFrz (mLc (mItS (mCallP m_cover (mCons (mVar 21) (mCons (mVar 22) mNil)))) [25] (gN 25) (mB (mDIn false (mVar 25) (mDictH (mVar 6)))) (mVar 25))) (mFrz (mDisp mNil))))
  (mSeq (mSetL 18 (mLc (mItS (mVar 5)) [23, 24] (gT [(gN 23), (gN 24)]) (mAndT (mB (mChain leD leD (mVar 12) (mVar 23) (mVar 13))) (mOrT (mB (mOp2 gtD (mVar 21) (mVar 22))) (mNotT (mB (mChain leD leD (mVar 21) (mOp2 divD (mVar 23) (mVar 8)) (mVar 22)))))) (mD (.int 1))))
  (mSeq (mAsg (gN 19) (mCallP m__law_cell (mCons (mFrz (mLc (mItS (mVar 5)) [23, 24] (gT [(gN 23), (gN 24)]) (mB (mChain leD leD (mVar 12) (mVar 23) (mVar 13))) (mTup (mCons (mVar 23) (mCons (mVar 24) mNil))))) mNil)))
  (mIf (mNotT (mTruth (mCallP (m__law_same 8) (mCons (mMeth "View" (Str.ofString "span") m_View_span (mVar 3) (mCons (mVar 12) (mCons (mVar 13) mNil))) (mCons (mTup (mCons (mVar 19) (mCons (mOp2 addD (mCB lenD (mCons (mVar 17) mNil)) (mCB lenD (mCons (mVar 18) mNil))) mNil))) mNil)))))
  (mRet (mD (.bool false)))
  mSkip)))))))))))))))))))
  (mSeq (mAsg (gN 3) (mMake "View" m_View___init__ (mCons (mOp2 addD (mD (.int 1)) (mCall1 m__law_roll (mCons (mVar 1) (mCons (mOp2 powD (mD (.int 10)) (mD (.int 9))) mNil)))) mNil)))
  (mSeq (mExpr (mMeth "View" (Str.ofString "write") m_View_write (mVar 3) (mCons (mOp2 powD (mD (.int 10)) (mD (.int 15))) (mCons (mD (.int 4)) mNil))))
  (mSeq (mExpr (mMeth "View" (Str.ofString "write") m_View_write (mVar 3) (mCons (mD (.int 0)) (mCons (mD (.int 3)) mNil))))
  (mRet (mCallP (m__law_same 8) (mCons (mTup (mCons (mOp2 ixD (mMeth "View" (Str.ofString "span") m_View_span (mVar 3) (mCons (mD (.int 0)) (mCons (mOp2 powD (mD (.int 10)) (mD (.int 15))) mNil))) (mD (.int 0))) (mCons (mMeth "View" (Str.ofString "columns") m_View_columns (mVar 3) (mCons (mD (.int 0)) (mCons (mOp2 powD (mD (.int 10)) (mD (.int 15))) (mCons (mD (.int 2)) mNil)))) mNil))) (mCons (mTup (mCons (mTup (mCons (mD (.int 2)) (mCons (mTup (mCons (mD (.int 0)) (mCons (mD (.int 3)) mNil))) (mCons (mTup (mCons (mOp2 powD (mD (.int 10)) (mD (.int 15))) (mCons (mD (.int 4)) mNil))) (mCons (mD (.int 3)) (mCons (mD (.int 4)) (mCons (mD (.int 7)) mNil))))))) (mCons (mTup (mCons (mTup (mCons (mD (.int 1)) (mCons (mTup (mCons (mD (.int 0)) (mCons (mD (.int 3)) mNil))) (mCons (mTup (mCons (mD (.int 0)) (mCons (mD (.int 3)) mNil))) (mCons (mD (.int 3)) (mCons (mD (.int 3)) (mCons (mD (.int 3)) mNil))))))) (mCons (mTup (mCons (mD (.int 1)) (mCons (mTup (mCons (mOp2 powD (mD (.int 10)) (mD (.int 15))) (mCons (mD (.int 4)) mNil))) (mCons (mTup (mCons (mOp2 powD (mD (.int 10)) (mD (.int 15))) (mCons (mD (.int 4)) mNil))) (mCons (mD (.int 4)) (mCons (mD (.int 4)) (mCons (mD (.int 4)) mNil))))))) mNil))) mNil))) mNil))))))))))
/-! what the head tells -/
structure Gs (P : Program) (w : World) (K : PySem.W.Frag) (mg : Str → Option Value) (base : Heap) : Prop where
  d_is_whole : ∃ f fd, FunD K "is_whole" "is_whole" (defArgs (top 8)) (defBody (top 8)) (defScope (top 8)) [] [] f fd ∧ mg "is_whole" = some (.ref f)
  d_is_tuple_of : ∃ f fd, FunD K "is_tuple_of" "is_tuple_of" (defArgs (top 9)) (defBody (top 9)) (defScope (top 9)) [] [] f fd ∧ mg "is_tuple_of" = some (.ref f)
  d_is_rising : ∃ f fd, FunD K "is_rising" "is_rising" (defArgs (top 10)) (defBody (top 10)) (defScope (top 10)) [] [] f fd ∧ mg "is_rising" = some (.ref f)
  d_fits_time : ∃ f fd, FunD K "fits_time" "fits_time" (defArgs (top 11)) (defBody (top 11)) (defScope (top 11)) [] [] f fd ∧ mg "fits_time" = some (.ref f)
  d_need_span : ∃ f fd, FunD K "need_span" "need_span" (defArgs (top 12)) (defBody (top 12)) (defScope (top 12)) [] [] f fd ∧ mg "need_span" = some (.ref f)
  d_fits_long : ∃ f fd, FunD K "fits_long" "fits_long" (defArgs (top 15)) (defBody (top 15)) (defScope (top 15)) [] [] f fd ∧ mg "fits_long" = some (.ref f)
  d_cell_of : ∃ f fd, FunD K "cell_of" "cell_of" (defArgs (top 20)) (defBody (top 20)) (defScope (top 20)) [] [] f fd ∧ mg "cell_of" = some (.ref f)
  d_joined : ∃ f fd, FunD K "joined" "joined" (defArgs (top 21)) (defBody (top 21)) (defScope (top 21)) [] [] f fd ∧ mg "joined" = some (.ref f)
  d_joined_all : ∃ f fd, FunD K "joined_all" "joined_all" (defArgs (top 22)) (defBody (top 22)) (defScope (top 22)) [] [] f fd ∧ mg "joined_all" = some (.ref f)
  d_fits_point : ∃ f fd, FunD K "fits_point" "fits_point" (defArgs (top 23)) (defBody (top 23)) (defScope (top 23)) [] [] f fd ∧ mg "fits_point" = some (.ref f)
  d_spans_of : ∃ f fd, FunD K "spans_of" "spans_of" (defArgs (top 24)) (defBody (top 24)) (defScope (top 24)) [] [] f fd ∧ mg "spans_of" = some (.ref f)
  d_points_in : ∃ f fd, FunD K "points_in" "points_in" (defArgs (top 25)) (defBody (top 25)) (defScope (top 25)) [] [] f fd ∧ mg "points_in" = some (.ref f)
  d_pyramid_in : ∃ f fd, FunD K "pyramid_in" "pyramid_in" (defArgs (top 26)) (defBody (top 26)) (defScope (top 26)) [] [] f fd ∧ mg "pyramid_in" = some (.ref f)
  d_power : ∃ f fd, FunD K "power" "power" (defArgs (top 28)) (defBody (top 28)) (defScope (top 28)) [] [] f fd ∧ mg "power" = some (.ref f)
  d_cover_in : ∃ f fd, FunD K "cover_in" "cover_in" (defArgs (top 27)) (defBody (top 27)) (defScope (top 27)) [] [] f fd ∧ mg "cover_in" = some (.ref f)
  d_need_base : ∃ f fd, FunD K "need_base" "need_base" (defArgs (top 30)) (defBody (top 30)) (defScope (top 30)) [] [] f fd ∧ mg "need_base" = some (.ref f)
  d_need_columns : ∃ f fd, FunD K "need_columns" "need_columns" (defArgs (top 31)) (defBody (top 31)) (defScope (top 31)) [] [] f fd ∧ mg "need_columns" = some (.ref f)
  d_need_points : ∃ f fd, FunD K "need_points" "need_points" (defArgs (top 32)) (defBody (top 32)) (defScope (top 32)) [] [] f fd ∧ mg "need_points" = some (.ref f)
  d_columns_of : ∃ f fd, FunD K "columns_of" "columns_of" (defArgs (top 33)) (defBody (top 33)) (defScope (top 33)) [] [] f fd ∧ mg "columns_of" = some (.ref f)
  d_column_spans : ∃ f fd, FunD K "column_spans" "column_spans" (defArgs (top 34)) (defBody (top 34)) (defScope (top 34)) [] [] f fd ∧ mg "column_spans" = some (.ref f)
  d_cells_of : ∃ f fd, FunD K "cells_of" "cells_of" (defArgs (top 35)) (defBody (top 35)) (defScope (top 35)) [] [] f fd ∧ mg "cells_of" = some (.ref f)
  d_cover : ∃ f fd, FunD K "cover" "cover" (defArgs (top 36)) (defBody (top 36)) (defScope (top 36)) [] [] f fd ∧ mg "cover" = some (.ref f)
  d__law_cup : ∃ f fd, FunD K "_law_cup" "_law_cup" (defArgs (top 38)) (defBody (top 38)) (defScope (top 38)) [] [] f fd ∧ mg "_law_cup" = some (.ref f)
  d__law_roll : ∃ f fd, FunD K "_law_roll" "_law_roll" (defArgs (top 39)) (defBody (top 39)) (defScope (top 39)) [] [] f fd ∧ mg "_law_roll" = some (.ref f)
  d__law_some : ∃ f fd, FunD K "_law_some" "_law_some" (defArgs (top 40)) (defBody (top 40)) (defScope (top 40)) [] [] f fd ∧ mg "_law_some" = some (.ref f)
  d__law_same : ∃ f fd, FunD K "_law_same" "_law_same" (defArgs (top 41)) (defBody (top 41)) (defScope (top 41)) [] [] f fd ∧ mg "_law_same" = some (.ref f)
  d__law_cell : ∃ f fd, FunD K "_law_cell" "_law_cell" (defArgs (top 42)) (defBody (top 42)) (defScope (top 42)) [] [] f fd ∧ mg "_law_cell" = some (.ref f)
  d__law_pyramid : ∃ f fd, FunD K "_law_pyramid" "_law_pyramid" (defArgs (top 43)) (defBody (top 43)) (defScope (top 43)) [] [] f fd ∧ mg "_law_pyramid" = some (.ref f)
  d__law_columns : ∃ f fd, FunD K "_law_columns" "_law_columns" (defArgs (top 44)) (defBody (top 44)) (defScope (top 44)) [] [] f fd ∧ mg "_law_columns" = some (.ref f)
  d_View___init__ : ∃ f fd, FunD K "__init__" "View.__init__" (defArgs (inClass (top 29) 0)) (defBody (inClass (top 29) 0)) (defScope (inClass (top 29) 0)) [] [] f fd ∧ Mk K (clsA K "View") f ∧ mg (Str.ofString "View") = some (.ref (clsA K "View"))
  d_View_put : ∃ f fd, FunD K "put" "View.put" (defArgs (inClass (top 29) 4)) (defBody (inClass (top 29) 4)) (defScope (inClass (top 29) 4)) [] [] f fd ∧ Meth K (clsA K "View") (Str.ofString "put") f
  d_View_renew : ∃ f fd, FunD K "renew" "View.renew" (defArgs (inClass (top 29) 3)) (defBody (inClass (top 29) 3)) (defScope (inClass (top 29) 3)) [] [] f fd ∧ Meth K (clsA K "View") (Str.ofString "renew") f
  d_View_write : ∃ f fd, FunD K "write" "View.write" (defArgs (inClass (top 29) 1)) (defBody (inClass (top 29) 1)) (defScope (inClass (top 29) 1)) [] [] f fd ∧ Meth K (clsA K "View") (Str.ofString "write") f
  d_View_delete : ∃ f fd, FunD K "delete" "View.delete" (defArgs (inClass (top 29) 2)) (defBody (inClass (top 29) 2)) (defScope (inClass (top 29) 2)) [] [] f fd ∧ Meth K (clsA K "View") (Str.ofString "delete") f
  d_View_all_cells : ∃ f fd, FunD K "all_cells" "View.all_cells" (defArgs (inClass (top 29) 5)) (defBody (inClass (top 29) 5)) (defScope (inClass (top 29) 5)) [] [] f fd ∧ Meth K (clsA K "View") (Str.ofString "all_cells") f
  d_View_span : ∃ f fd, FunD K "span" "View.span" (defArgs (inClass (top 29) 6)) (defBody (inClass (top 29) 6)) (defScope (inClass (top 29) 6)) [] [] f fd ∧ Meth K (clsA K "View") (Str.ofString "span") f
  d_View_columns : ∃ f fd, FunD K "columns" "View.columns" (defArgs (inClass (top 29) 7)) (defBody (inClass (top 29) 7)) (defScope (inClass (top 29) 7)) [] [] f fd ∧ Meth K (clsA K "View") (Str.ofString "columns") f
  d_View_work : ∃ f fd, FunD K "work" "View.work" (defArgs (inClass (top 29) 8)) (defBody (inClass (top 29) 8)) (defScope (inClass (top 29) 8)) [] [] f fd ∧ Meth K (clsA K "View") (Str.ofString "work") f
  d_law : ∃ f fd, FunD K "law" "law" (defArgs (top 45)) (defBody (top 45)) (defScope (top 45)) [] [] f fd ∧ mg "law" = some (.ref f)
  c_View : Cls K (clsA K "View")
  n_View_base : NoAttr K (clsA K "View") (Str.ofString "base")
  n_View_points : NoAttr K (clsA K "View") (Str.ofString "points")
  n_View_cells : NoAttr K (clsA K "View") (Str.ofString "cells")
  n_View_made : NoAttr K (clsA K "View") (Str.ofString "made")
  f_abs : mg "abs" = none
  f_all : mg "all" = none
  f_bool : mg "bool" = none
  f_dict : mg "dict" = none
  f_divmod : mg "divmod" = none
  f_int : mg "int" = none
  f_isinstance : mg "isinstance" = none
  f_len : mg "len" = none
  f_list : mg "list" = none
  f_max : mg "max" = none
  f_min : mg "min" = none
  f_range : mg "range" = none
  f_set : mg "set" = none
  f_sorted : mg "sorted" = none
  f_str : mg "str" = none
  f_sum : mg "sum" = none
  f_tuple : mg "tuple" = none
  f_zip : mg "zip" = none
  i_TIME : ∃ t, mg "TIME" = some (.int 1000000000000000 t)
  i_VALUE : ∃ t, mg "VALUE" = some (.int 1000000000000 t)
  i_MANY : ∃ t, mg "MANY" = some (.int 4096 t)
  i_LEVELS : ∃ t, mg "LEVELS" = some (.int 51 t)
  i_COLUMNS : ∃ t, mg "COLUMNS" = some (.int 256 t)
  i_CELLS : ∃ t, mg "CELLS" = some (.int 4096 t)
  e_SeriesError : ExF K mg "SeriesError"
  e_InvalidSamples : ExF K mg "InvalidSamples"
  e_InvalidNumber : ExF K mg "InvalidNumber"
section
variable {P : Program} {w : World} {K : PySem.W.Frag} {mg : Str → Option Value} {base : Heap} (G : Gs P w K mg base)
theorem sc_is_whole : FnScope [Str.ofString "value", Str.ofString "low", Str.ofString "high"] [Str.ofString "value", Str.ofString "low", Str.ofString "high"] (defScope (top 8)) := ⟨rfl, rfl, rfl, by decide +kernel, rfl, by decide +kernel, by decide +kernel⟩
theorem sc_is_tuple_of : FnScope [Str.ofString "value", Str.ofString "low", Str.ofString "high"] [Str.ofString "value", Str.ofString "low", Str.ofString "high"] (defScope (top 9)) := ⟨rfl, rfl, rfl, by decide +kernel, rfl, by decide +kernel, by decide +kernel⟩
theorem sc_is_rising : FnScope [Str.ofString "value", Str.ofString "one", Str.ofString "other"] [Str.ofString "value"] (defScope (top 10)) := ⟨rfl, rfl, rfl, by decide +kernel, rfl, by decide +kernel, by decide +kernel⟩
theorem sc_fits_time : FnScope [Str.ofString "value"] [Str.ofString "value"] (defScope (top 11)) := ⟨rfl, rfl, rfl, by decide +kernel, rfl, by decide +kernel, by decide +kernel⟩
theorem sc_need_span : FnScope [Str.ofString "begin", Str.ofString "end"] [Str.ofString "begin", Str.ofString "end"] (defScope (top 12)) := ⟨rfl, rfl, rfl, by decide +kernel, rfl, by decide +kernel, by decide +kernel⟩
theorem sc_fits_long : FnScope [Str.ofString "value", Str.ofString "time", Str.ofString "own", Str.ofString "one"] [Str.ofString "value"] (defScope (top 15)) := ⟨rfl, rfl, rfl, by decide +kernel, rfl, by decide +kernel, by decide +kernel⟩
theorem sc_cell_of : FnScope [Str.ofString "points", Str.ofString "values", Str.ofString "time", Str.ofString "value"] [Str.ofString "points"] (defScope (top 20)) := ⟨rfl, rfl, rfl, by decide +kernel, rfl, by decide +kernel, by decide +kernel⟩
theorem sc_joined : FnScope [Str.ofString "one", Str.ofString "other", Str.ofString "least", Str.ofString "most"] [Str.ofString "one", Str.ofString "other"] (defScope (top 21)) := ⟨rfl, rfl, rfl, by decide +kernel, rfl, by decide +kernel, by decide +kernel⟩
theorem sc_joined_all : FnScope [Str.ofString "cells", Str.ofString "found", Str.ofString "cell"] [Str.ofString "cells"] (defScope (top 22)) := ⟨rfl, rfl, rfl, by decide +kernel, rfl, by decide +kernel, by decide +kernel⟩
theorem sc_fits_point : FnScope [Str.ofString "value"] [Str.ofString "value"] (defScope (top 23)) := ⟨rfl, rfl, rfl, by decide +kernel, rfl, by decide +kernel, by decide +kernel⟩
theorem sc_spans_of : FnScope [Str.ofString "begin", Str.ofString "end", Str.ofString "columns", Str.ofString "column", Str.ofString "size", Str.ofString "more", Str.ofString "found", Str.ofString "at", Str.ofString "wide"] [Str.ofString "begin", Str.ofString "end", Str.ofString "columns"] (defScope (top 24)) := ⟨rfl, rfl, rfl, by decide +kernel, rfl, by decide +kernel, by decide +kernel⟩
theorem sc_points_in : FnScope [Str.ofString "points", Str.ofString "begin", Str.ofString "end", Str.ofString "time", Str.ofString "value"] [Str.ofString "points", Str.ofString "begin", Str.ofString "end"] (defScope (top 25)) := ⟨rfl, rfl, rfl, by decide +kernel, rfl, by decide +kernel, by decide +kernel⟩
theorem sc_pyramid_in : FnScope [Str.ofString "points", Str.ofString "base", Str.ofString "found", Str.ofString "line", Str.ofString "level", Str.ofString "time", Str.ofString "value", Str.ofString "key", Str.ofString "later", Str.ofString "under", Str.ofString "place"] [Str.ofString "points", Str.ofString "base"] (defScope (top 26)) := ⟨rfl, rfl, rfl, by decide +kernel, rfl, by decide +kernel, by decide +kernel⟩
theorem sc_power : FnScope [Str.ofString "many", Str.ofString "found", Str.ofString "turn"] [Str.ofString "many"] (defScope (top 28)) := ⟨rfl, rfl, rfl, by decide +kernel, rfl, by decide +kernel, by decide +kernel⟩
theorem sc_cover_in : FnScope [Str.ofString "first", Str.ofString "last", Str.ofString "found", Str.ofString "at", Str.ofString "level"] [Str.ofString "first", Str.ofString "last"] (defScope (top 27)) := ⟨rfl, rfl, rfl, by decide +kernel, rfl, by decide +kernel, by decide +kernel⟩
theorem sc_need_base : FnScope [Str.ofString "base"] [Str.ofString "base"] (defScope (top 30)) := ⟨rfl, rfl, rfl, by decide +kernel, rfl, by decide +kernel, by decide +kernel⟩
theorem sc_need_columns : FnScope [Str.ofString "begin", Str.ofString "end", Str.ofString "many"] [Str.ofString "begin", Str.ofString "end", Str.ofString "many"] (defScope (top 31)) := ⟨rfl, rfl, rfl, by decide +kernel, rfl, by decide +kernel, by decide +kernel⟩
theorem sc_need_points : FnScope [Str.ofString "points"] [Str.ofString "points"] (defScope (top 32)) := ⟨rfl, rfl, rfl, by decide +kernel, rfl, by decide +kernel, by decide +kernel⟩
theorem sc_columns_of : FnScope [Str.ofString "points", Str.ofString "begin", Str.ofString "end", Str.ofString "many", Str.ofString "low", Str.ofString "high"] [Str.ofString "points", Str.ofString "begin", Str.ofString "end", Str.ofString "many"] (defScope (top 33)) := ⟨rfl, rfl, rfl, by decide +kernel, rfl, by decide +kernel, by decide +kernel⟩
theorem sc_column_spans : FnScope [Str.ofString "begin", Str.ofString "end", Str.ofString "many"] [Str.ofString "begin", Str.ofString "end", Str.ofString "many"] (defScope (top 34)) := ⟨rfl, rfl, rfl, by decide +kernel, rfl, by decide +kernel, by decide +kernel⟩
theorem sc_cells_of : FnScope [Str.ofString "points", Str.ofString "base"] [Str.ofString "points", Str.ofString "base"] (defScope (top 35)) := ⟨rfl, rfl, rfl, by decide +kernel, rfl, by decide +kernel, by decide +kernel⟩
theorem sc_cover : FnScope [Str.ofString "first", Str.ofString "last"] [Str.ofString "first", Str.ofString "last"] (defScope (top 36)) := ⟨rfl, rfl, rfl, by decide +kernel, rfl, by decide +kernel, by decide +kernel⟩
theorem sc__law_cup : FnScope [Str.ofString "script", Str.ofString "cell"] [Str.ofString "script"] (defScope (top 38)) := ⟨rfl, rfl, rfl, by decide +kernel, rfl, by decide +kernel, by decide +kernel⟩
theorem sc__law_roll : FnScope [Str.ofString "cup", Str.ofString "many", Str.ofString "deep", Str.ofString "found"] [Str.ofString "cup", Str.ofString "many"] (defScope (top 39)) := ⟨rfl, rfl, rfl, by decide +kernel, rfl, by decide +kernel, by decide +kernel⟩
theorem sc__law_some : FnScope [Str.ofString "cup", Str.ofString "things"] [Str.ofString "cup", Str.ofString "things"] (defScope (top 40)) := ⟨rfl, rfl, rfl, by decide +kernel, rfl, by decide +kernel, by decide +kernel⟩
theorem sc__law_same : FnScope [Str.ofString "told", Str.ofString "due", Str.ofString "at"] [Str.ofString "told", Str.ofString "due"] (defScope (top 41)) := ⟨rfl, rfl, rfl, by decide +kernel, rfl, by decide +kernel, by decide +kernel⟩
theorem sc__law_cell : FnScope [Str.ofString "points", Str.ofString "values", Str.ofString "time", Str.ofString "value"] [Str.ofString "points"] (defScope (top 42)) := ⟨rfl, rfl, rfl, by decide +kernel, rfl, by decide +kernel, by decide +kernel⟩
theorem sc__law_pyramid : FnScope [Str.ofString "points", Str.ofString "base", Str.ofString "found", Str.ofString "wide", Str.ofString "level", Str.ofString "place", Str.ofString "time", Str.ofString "value"] [Str.ofString "points", Str.ofString "base"] (defScope (top 43)) := ⟨rfl, rfl, rfl, by decide +kernel, rfl, by decide +kernel, by decide +kernel⟩
theorem sc__law_columns : FnScope [Str.ofString "begin", Str.ofString "end", Str.ofString "many", Str.ofString "left", Str.ofString "found", Str.ofString "at", Str.ofString "wide"] [Str.ofString "begin", Str.ofString "end", Str.ofString "many"] (defScope (top 44)) := ⟨rfl, rfl, rfl, by decide +kernel, rfl, by decide +kernel, by decide +kernel⟩
theorem sc_View___init__ : FnScope [Str.ofString "self", Str.ofString "base"] [Str.ofString "self", Str.ofString "base"] (defScope (inClass (top 29) 0)) := ⟨rfl, rfl, rfl, by decide +kernel, rfl, by decide +kernel, by decide +kernel⟩
theorem sc_View_put : FnScope [Str.ofString "self", Str.ofString "level", Str.ofString "place", Str.ofString "cell"] [Str.ofString "self", Str.ofString "level", Str.ofString "place", Str.ofString "cell"] (defScope (inClass (top 29) 4)) := ⟨rfl, rfl, rfl, by decide +kernel, rfl, by decide +kernel, by decide +kernel⟩
theorem sc_View_renew : FnScope [Str.ofString "self", Str.ofString "time", Str.ofString "place", Str.ofString "begin", Str.ofString "own", Str.ofString "level", Str.ofString "beneath", Str.ofString "at", Str.ofString "value"] [Str.ofString "self", Str.ofString "time"] (defScope (inClass (top 29) 3)) := ⟨rfl, rfl, rfl, by decide +kernel, rfl, by decide +kernel, by decide +kernel⟩
theorem sc_View_write : FnScope [Str.ofString "self", Str.ofString "time", Str.ofString "value"] [Str.ofString "self", Str.ofString "time", Str.ofString "value"] (defScope (inClass (top 29) 1)) := ⟨rfl, rfl, rfl, by decide +kernel, rfl, by decide +kernel, by decide +kernel⟩
theorem sc_View_delete : FnScope [Str.ofString "self", Str.ofString "begin", Str.ofString "end", Str.ofString "gone", Str.ofString "time"] [Str.ofString "self", Str.ofString "begin", Str.ofString "end"] (defScope (inClass (top 29) 2)) := ⟨rfl, rfl, rfl, by decide +kernel, rfl, by decide +kernel, by decide +kernel⟩
theorem sc_View_all_cells : FnScope [Str.ofString "self"] [Str.ofString "self"] (defScope (inClass (top 29) 5)) := ⟨rfl, rfl, rfl, by decide +kernel, rfl, by decide +kernel, by decide +kernel⟩
theorem sc_View_span : FnScope [Str.ofString "self", Str.ofString "begin", Str.ofString "end", Str.ofString "edges", Str.ofString "rows", Str.ofString "lots", Str.ofString "inner", Str.ofString "whole", Str.ofString "first", Str.ofString "last", Str.ofString "own", Str.ofString "key", Str.ofString "low", Str.ofString "high", Str.ofString "at", Str.ofString "value"] [Str.ofString "self", Str.ofString "begin", Str.ofString "end"] (defScope (inClass (top 29) 6)) := ⟨rfl, rfl, rfl, by decide +kernel, rfl, by decide +kernel, by decide +kernel⟩
theorem sc_View_columns : FnScope [Str.ofString "self", Str.ofString "begin", Str.ofString "end", Str.ofString "many", Str.ofString "low", Str.ofString "high"] [Str.ofString "self", Str.ofString "begin", Str.ofString "end", Str.ofString "many"] (defScope (inClass (top 29) 7)) := ⟨rfl, rfl, rfl, by decide +kernel, rfl, by decide +kernel, by decide +kernel⟩
theorem sc_View_work : FnScope [Str.ofString "self"] [Str.ofString "self"] (defScope (inClass (top 29) 8)) := ⟨rfl, rfl, rfl, by decide +kernel, rfl, by decide +kernel, by decide +kernel⟩
theorem sc_law : FnScope [Str.ofString "script", Str.ofString "cup", Str.ofString "turn", Str.ofString "view", Str.ofString "step", Str.ofString "points", Str.ofString "cells", Str.ofString "more", Str.ofString "base", Str.ofString "times", Str.ofString "found", Str.ofString "work", Str.ofString "begin", Str.ofString "end", Str.ofString "many", Str.ofString "spans", Str.ofString "due", Str.ofString "inner", Str.ofString "edges", Str.ofString "whole", Str.ofString "gone", Str.ofString "first", Str.ofString "last", Str.ofString "time", Str.ofString "value", Str.ofString "key", Str.ofString "low", Str.ofString "high"] [Str.ofString "script"] (defScope (top 45)) := ⟨rfl, rfl, rfl, by decide +kernel, rfl, by decide +kernel, by decide +kernel⟩
include G
theorem fx_is_whole : Fx P w K mg base "is_whole" 3 1 m_is_whole := by
  obtain ⟨f, fd, F, g⟩ := G.d_is_whole
  exact fx_of g F.kp (F.bindsN fun _ _ _ _ _ _ us hl => match us, hl with | [_, _, _], _ => rfl) rfl (fn_rule F sc_is_whole fun cdv A outer s H E hr tk hp => (is_last (is_ret (i_andV (i_isi .int (i_var 0) G.f_isinstance G.f_int) (i_andV (i_notV (i_isi .bool (i_var 0) G.f_isinstance G.f_bool)) (i_one (i_chain o_le o_le (i_var 1) (i_var 0) (i_var 2))))))))
theorem fx_is_tuple_of : Fx P w K mg base "is_tuple_of" 3 1 m_is_tuple_of := by
  obtain ⟨f, fd, F, g⟩ := G.d_is_tuple_of
  exact fx_of g F.kp (F.bindsN fun _ _ _ _ _ _ us hl => match us, hl with | [_, _, _], _ => rfl) rfl (fn_rule F sc_is_tuple_of fun cdv A outer s H E hr tk hp => (is_last (is_ret (i_andV (i_isi .tup (i_var 0) G.f_isinstance G.f_tuple) (i_one (i_chain o_le o_le (i_var 1) (i_cb c_len G.f_len (by decide +kernel) (i_cons (i_var 0) i_nil)) (i_var 2)))))))
theorem fx_is_rising : Fx P w K mg base "is_rising" 1 1 m_is_rising := by
  obtain ⟨f, fd, F, g⟩ := G.d_is_rising
  exact fx_of g F.kp (F.bindsN fun _ _ _ _ _ _ us hl => match us, hl with | [_], _ => rfl) rfl (fn_rule F sc_is_rising fun cdv A outer s H E hr tk hp => (is_last (is_ret (i_cb (c_all rfl) G.f_all (by decide +kernel) (i_cons (i_frz (i_lc (own := [(Str.ofString "one", 1), (Str.ofString "other", 2)]) sc_is_rising.nd (i_zip G.f_zip (i_cons (i_var 0) (i_cons (i_slice (i_var 0) (i_part i_int) i_noP) i_nil))) (blkOk_by (by kernel_rfl)) (by decide) (fun _ _ _ _ _ => (ig_tupW (igs_cons (ig_name 1 sc_is_rising.nd) (igs_cons (ig_name 2 sc_is_rising.nd) igs_nil)))) (fun _ _ _ _ _ => i_ts0) (fun _ _ _ _ _ => (i_cmp (o_lt (hu_of hr)) (i_var 1) (i_var 2) (nomark _))))) i_nil)))))
theorem fx_fits_time : Fx P w K mg base "fits_time" 1 2 m_fits_time := by
  obtain ⟨f, fd, F, g⟩ := G.d_fits_time
  exact fx_of g F.kp (F.bindsN fun _ _ _ _ _ _ us hl => match us, hl with | [_], _ => rfl) rfl (fn_rule F sc_fits_time fun cdv A outer s H E hr tk hp => (is_last (is_ret (i_callP ((fx_is_whole G).mono (by first | decide | omega)) hr tk (i_cons (i_var 0) (i_cons i_int (i_cons (i_globI G.i_TIME) i_nil))) (len_cons (len_cons (len_cons len_nil)))))))
theorem fx_need_span : Fx P w K mg base "need_span" 2 3 m_need_span := by
  obtain ⟨f, fd, F, g⟩ := G.d_need_span
  exact fx_of g F.kp (F.bindsN fun _ _ _ _ _ _ us hl => match us, hl with | [_, _], _ => rfl) rfl (fn_rule F sc_need_span fun cdv A outer s H E hr tk hp => (is_last (is_if (i_bt (i_orT (i_notT (i_tru (i_callP ((fx_fits_time G).mono (by first | decide | omega)) hr tk (i_cons (i_var 0) i_nil) (len_cons len_nil)))) (i_or1 (i_notT (i_tru (i_callP ((fx_is_whole G).mono (by first | decide | omega)) hr tk (i_cons (i_var 1) (i_cons (i_var 0) (i_cons (i_globI G.i_TIME) i_nil))) (len_cons (len_cons (len_cons len_nil)))))))))
  (is_last (is_raiseX G.e_InvalidNumber tk))
  is_nil)))
theorem fx_fits_long : Fx P w K mg base "fits_long" 1 3 m_fits_long := by
  obtain ⟨f, fd, F, g⟩ := G.d_fits_long
  exact fx_of g F.kp (F.bindsN fun _ _ _ _ _ _ us hl => match us, hl with | [_], _ => rfl) rfl (fn_rule F sc_fits_long fun cdv A outer s H E hr tk hp => (is_cons (is_if (i_bt (i_orT (i_notT (i_tru (i_callP ((fx_is_tuple_of G).mono (by first | decide | omega)) hr tk (i_cons (i_var 0) (i_cons i_int (i_cons (i_globI G.i_MANY) i_nil))) (len_cons (len_cons (len_cons len_nil)))))) (i_or1 (i_notT (i_tru (i_cb (c_all rfl) G.f_all (by decide +kernel) (i_cons (i_frz (i_lc (own := [(Str.ofString "one", 3)]) sc_fits_long.nd (i_itS (i_var 0)) (blkOk_by (by kernel_rfl)) (by decide) (fun _ _ _ _ _ => (ig_s (ig_name 3 sc_fits_long.nd))) (fun _ _ _ _ _ => i_ts0) (fun _ _ _ _ _ => (i_callP ((fx_is_tuple_of G).mono (by first | decide | omega)) hr takes0 (i_cons (i_var 3) (i_cons i_int (i_cons i_int i_nil))) (len_cons (len_cons (len_cons len_nil))))))) i_nil)))))))
  (is_last (is_ret i_bl))
  is_nil)
  (is_cons (is_if (i_notT (i_tru (i_cb (c_all rfl) G.f_all (by decide +kernel) (i_cons (i_frz (i_lc (own := [(Str.ofString "time", 1), (Str.ofString "own", 2)]) sc_fits_long.nd (i_itS (i_var 0)) (blkOk_by (by kernel_rfl)) (by decide) (fun _ _ _ _ _ => (ig_s (ig_tup (igs_cons (ig_name 1 sc_fits_long.nd) (igs_cons (ig_name 2 sc_fits_long.nd) igs_nil))))) (fun _ _ _ _ _ => i_ts0) (fun _ _ _ _ _ => (i_andV (i_callP ((fx_fits_time G).mono (by first | decide | omega)) hr takes0 (i_cons (i_var 1) i_nil) (len_cons len_nil)) (i_one (i_callP ((fx_is_whole G).mono (by first | decide | omega)) hr takes0 (i_cons (i_var 2) (i_cons (i_negD (i_globI G.i_VALUE)) (i_cons (i_globI G.i_VALUE) i_nil))) (len_cons (len_cons (len_cons len_nil))))))))) i_nil))))
  (is_last (is_ret i_bl))
  is_nil)
  (is_last (is_ret (i_callP ((fx_is_rising G).mono (by first | decide | omega)) hr tk (i_cons (i_frz (i_lc (own := [(Str.ofString "time", 1), (Str.ofString "own", 2)]) sc_fits_long.nd (i_itS (i_var 0)) (blkOk_by (by kernel_rfl)) (by decide) (fun _ _ _ _ _ => (ig_s (ig_tup (igs_cons (ig_name 1 sc_fits_long.nd) (igs_cons (ig_name 2 sc_fits_long.nd) igs_nil))))) (fun _ _ _ _ _ => i_ts0) (fun _ _ _ _ _ => (i_var 1)))) i_nil) (len_cons len_nil)))))))
theorem fx_cell_of : Fx P w K mg base "cell_of" 1 1 m_cell_of := by
  obtain ⟨f, fd, F, g⟩ := G.d_cell_of
  exact fx_of g F.kp (F.bindsN fun _ _ _ _ _ _ us hl => match us, hl with | [_], _ => rfl) rfl (fn_rule F sc_cell_of fun cdv A outer s H E hr tk hp => (is_cons (is_if (i_cmpT (o_eq (hu_of hr)) (i_var 0) (i_tup i_nil) (nomark _))
  (is_last (is_ret i_non))
  is_nil)
  (is_cons (is_setL (is_lcS (i := 1) (own := [(Str.ofString "time", 2), (Str.ofString "value", 3)]) sc_cell_of.nd (i_itS (i_var 0)) (blkOk_by (by kernel_rfl)) (by decide) (fun _ _ _ _ _ => (ig_s (ig_tup (igs_cons (ig_name 2 sc_cell_of.nd) (igs_cons (ig_name 3 sc_cell_of.nd) igs_nil))))) (fun _ _ _ _ _ => i_ts0) (fun _ _ _ _ _ => (i_var 3)) (sw_true rfl rfl rfl rfl)))
  (is_last (is_ret (i_tup (i_cons (i_cb c_len G.f_len (by decide +kernel) (i_cons (i_var 0) i_nil)) (i_cons (i_ix o_ix (i_var 0) i_int) (i_cons (i_ix o_ix (i_var 0) (i_negD i_int)) (i_cons (i_cb (c_min rfl) G.f_min (by decide +kernel) (i_cons (i_var 1) i_nil)) (i_cons (i_cb (c_max rfl) G.f_max (by decide +kernel) (i_cons (i_var 1) i_nil)) (i_cons (i_cb (c_sum rfl) G.f_sum (by decide +kernel) (i_cons (i_var 1) i_nil)) i_nil))))))))))))
theorem fx_joined : Fx P w K mg base "joined" 2 1 m_joined := by
  obtain ⟨f, fd, F, g⟩ := G.d_joined
  exact fx_of g F.kp (F.bindsN fun _ _ _ _ _ _ us hl => match us, hl with | [_, _], _ => rfl) rfl (fn_rule F sc_joined fun cdv A outer s H E hr tk hp => (is_cons (is_if (i_bt (i_orT (i_cmpT o_isN (i_var 0) i_non (nomark _)) (i_or1 (i_cmpT o_isN (i_var 1) i_non (nomark _)))))
  (is_last (is_ret (i_ifE (i_cmpT o_isN (i_var 0) i_non (nomark _)) (i_var 1) (i_var 0))))
  is_nil)
  (is_cons (is_par 2 3 sc_joined.nd (i_cons (i_cb (c_min rfl) G.f_min (by decide +kernel) (i_cons (i_ix o_ix (i_var 0) i_int) (i_cons (i_ix o_ix (i_var 1) i_int) i_nil))) (i_cons (i_cb (c_max rfl) G.f_max (by decide +kernel) (i_cons (i_ix o_ix (i_var 0) i_int) (i_cons (i_ix o_ix (i_var 1) i_int) i_nil))) i_nil)) (by rfl))
  (is_last (is_ret (i_tup (i_cons (i_bin o_add (i_ix o_ix (i_var 0) i_int) (i_ix o_ix (i_var 1) i_int)) (i_cons (i_ix o_ix (i_var 0) i_int) (i_cons (i_ix o_ix (i_var 1) i_int) (i_cons (i_var 2) (i_cons (i_var 3) (i_cons (i_bin o_add (i_ix o_ix (i_var 0) i_int) (i_ix o_ix (i_var 1) i_int)) i_nil))))))))))))
theorem fx_joined_all : Fx P w K mg base "joined_all" 1 2 m_joined_all := by
  obtain ⟨f, fd, F, g⟩ := G.d_joined_all
  exact fx_of g F.kp (F.bindsN fun _ _ _ _ _ _ us hl => match us, hl with | [_], _ => rfl) rfl (fn_rule F sc_joined_all fun cdv A outer s H E hr tk hp => (is_cons (is_set 1 sc_joined_all.nd i_non)
  (is_cons (is_for hp (i_itS (i_var 0)) (ig_s (ig_name 2 sc_joined_all.nd))
  (is_last (is_set 1 sc_joined_all.nd (i_callP ((fx_joined G).mono (by first | decide | omega)) hr tk (i_cons (i_var 1) (i_cons (i_var 2) i_nil)) (len_cons (len_cons len_nil))))))
  (is_last (is_ret (i_var 1))))))
theorem fx_fits_point : Fx P w K mg base "fits_point" 1 2 m_fits_point := by
  obtain ⟨f, fd, F, g⟩ := G.d_fits_point
  exact fx_of g F.kp (F.bindsN fun _ _ _ _ _ _ us hl => match us, hl with | [_], _ => rfl) rfl (fn_rule F sc_fits_point fun cdv A outer s H E hr tk hp => (is_last (is_ret (i_andV (i_callP ((fx_is_tuple_of G).mono (by first | decide | omega)) hr tk (i_cons (i_var 0) (i_cons i_int (i_cons i_int i_nil))) (len_cons (len_cons (len_cons len_nil)))) (i_andV (i_callP ((fx_is_whole G).mono (by first | decide | omega)) hr tk (i_cons (i_ix o_ix (i_var 0) i_int) (i_cons i_int (i_cons (i_globI G.i_TIME) i_nil))) (len_cons (len_cons (len_cons len_nil)))) (i_one (i_callP ((fx_is_whole G).mono (by first | decide | omega)) hr tk (i_cons (i_ix o_ix (i_var 0) i_int) (i_cons (i_negD (i_globI G.i_VALUE)) (i_cons (i_globI G.i_VALUE) i_nil))) (len_cons (len_cons (len_cons len_nil))))))))))
theorem fx_spans_of : Fx P w K mg base "spans_of" 3 1 m_spans_of := by
  obtain ⟨f, fd, F, g⟩ := G.d_spans_of
  exact fx_of g F.kp (F.bindsN fun _ _ _ _ _ _ us hl => match us, hl with | [_, _, _], _ => rfl) rfl (fn_rule F sc_spans_of fun cdv A outer s H E hr tk hp => (is_cons (is_asg (ig_tup (igs_cons (ig_name 4 sc_spans_of.nd) (igs_cons (ig_name 5 sc_spans_of.nd) igs_nil))) (i_cb c_divmod G.f_divmod (by decide +kernel) (i_cons (i_bin o_add (i_bin o_sub (i_var 1) (i_var 0)) i_int) (i_cons (i_var 2) i_nil))))
  (is_cons (is_par 6 7 sc_spans_of.nd (i_cons (i_new (i_lst i_nil)) (i_cons (i_var 0) i_nil)) (by rfl))
  (is_cons (is_for hp (i_range1 G.f_range (i_cons (i_var 2) i_nil)) (ig_s (ig_name 3 sc_spans_of.nd))
  (is_cons (is_set 8 sc_spans_of.nd (i_bin o_add (i_var 4) (i_ct c_int G.f_int (by decide +kernel) (i_cons (i_cmp (o_lt (hu_of hr)) (i_var 3) (i_var 5) (nomark _)) i_nil))))
  (is_cons (is_expr (i_app (i_var 6) (i_tup (i_cons (i_var 7) (i_cons (i_bin o_sub (i_bin o_add (i_var 7) (i_var 8)) i_int) i_nil)))))
  (is_last (is_set 7 sc_spans_of.nd (i_bin o_add (i_var 7) (i_var 8)))))))
  (is_last (is_ret (i_frzR (i_var 6))))))))
theorem fx_points_in : Fx P w K mg base "points_in" 3 1 m_points_in := by
  obtain ⟨f, fd, F, g⟩ := G.d_points_in
  exact fx_of g F.kp (F.bindsN fun _ _ _ _ _ _ us hl => match us, hl with | [_, _, _], _ => rfl) rfl (fn_rule F sc_points_in fun cdv A outer s H E hr tk hp => (is_last (is_ret (i_ct c_tuple G.f_tuple (by decide +kernel) (i_cons (i_frz (i_lc (own := [(Str.ofString "time", 3), (Str.ofString "value", 4)]) sc_points_in.nd (i_itS (i_var 0)) (blkOk_by (by kernel_rfl)) (by decide) (fun _ _ _ _ _ => (ig_s (ig_tup (igs_cons (ig_name 3 sc_points_in.nd) (igs_cons (ig_name 4 sc_points_in.nd) igs_nil))))) (fun _ _ _ _ _ => (i_ts1 (i_chainT o_le o_le (i_var 1) (i_var 3) (i_var 2)))) (fun _ _ _ _ _ => (i_tup (i_cons (i_var 3) (i_cons (i_var 4) i_nil)))))) i_nil)))))
theorem fx_pyramid_in : Fx P w K mg base "pyramid_in" 2 2 m_pyramid_in := by
  obtain ⟨f, fd, F, g⟩ := G.d_pyramid_in
  exact fx_of g F.kp (F.bindsN fun _ _ _ _ _ _ us hl => match us, hl with | [_, _], _ => rfl) rfl (fn_rule F sc_pyramid_in fun cdv A outer s H E hr tk hp => (is_cons (is_set 2 sc_pyramid_in.nd i_dicH0)
  (is_cons (is_for hp (i_itS (i_var 0)) (ig_s (ig_tup (igs_cons (ig_name 5 sc_pyramid_in.nd) (igs_cons (ig_name 6 sc_pyramid_in.nd) igs_nil))))
  (is_cons (is_set 7 sc_pyramid_in.nd (i_tup (i_cons i_int (i_cons (i_bin o_div (i_var 5) (i_var 1)) i_nil))))
  (is_last (is_putH (hu_of hr) (i_callP ((fx_joined G).mono (by first | decide | omega)) hr tk (i_cons (i_dget1 (hu_of hr) (i_var 2) (i_var 7)) (i_cons (i_callP ((fx_cell_of G).mono (by first | decide | omega)) hr tk (i_cons (i_tup (i_cons (i_tup (i_cons (i_var 5) (i_cons (i_var 6) i_nil))) i_nil)) i_nil) (len_cons len_nil)) i_nil)) (len_cons (len_cons len_nil))) (i_var 2) (i_var 7)))))
  (is_cons (is_set 3 sc_pyramid_in.nd (i_var 2))
  (is_cons (is_for hp (i_range2 G.f_range (i_cons i_int (i_cons (i_globI G.i_LEVELS) i_nil))) (ig_s (ig_name 4 sc_pyramid_in.nd))
  (is_cons (is_set 8 sc_pyramid_in.nd i_dicH0)
  (is_cons (is_for hp (i_itS (i_frz (i_sortKeysH (i_var 3) G.f_sorted (hu_of hr)))) (ig_s (ig_tup (igs_cons (ig_name 9 sc_pyramid_in.nd) (igs_cons (ig_name 10 sc_pyramid_in.nd) igs_nil))))
  (is_cons (is_set 7 sc_pyramid_in.nd (i_tup (i_cons (i_var 4) (i_cons (i_bin o_div (i_var 10) i_int) i_nil))))
  (is_last (is_putH (hu_of hr) (i_callP ((fx_joined G).mono (by first | decide | omega)) hr tk (i_cons (i_dget1 (hu_of hr) (i_var 8) (i_var 7)) (i_cons (i_dget (hu_of hr) (i_var 3) (i_tup (i_cons (i_var 9) (i_cons (i_var 10) i_nil)))) i_nil)) (len_cons (len_cons len_nil))) (i_var 8) (i_var 7)))))
  (is_cons (is_set 2 sc_pyramid_in.nd (i_mergeH (hu_of hr) (i_var 2) (i_var 8)))
  (is_last (is_set 3 sc_pyramid_in.nd (i_var 8)))))))
  (is_last (is_ret (i_var 2))))))))
theorem fx_power : Fx P w K mg base "power" 1 1 m_power := by
  obtain ⟨f, fd, F, g⟩ := G.d_power
  exact fx_of g F.kp (F.bindsN fun _ _ _ _ _ _ us hl => match us, hl with | [_], _ => rfl) rfl (fn_rule F sc_power fun cdv A outer s H E hr tk hp => (is_cons (is_set 1 sc_power.nd i_int)
  (is_cons (is_for hp (i_range1 G.f_range (i_cons (i_var 0) i_nil)) (ig_s (ig_name 2 sc_power.nd))
  (is_last (is_set 1 sc_power.nd (i_bin o_mul i_int (i_var 1)))))
  (is_last (is_ret (i_var 1))))))
theorem fx_cover_in : Fx P w K mg base "cover_in" 2 2 m_cover_in := by
  obtain ⟨f, fd, F, g⟩ := G.d_cover_in
  exact fx_of g F.kp (F.bindsN fun _ _ _ _ _ _ us hl => match us, hl with | [_, _], _ => rfl) rfl (fn_rule F sc_cover_in fun cdv A outer s H E hr tk hp => (is_cons (is_par 2 3 sc_cover_in.nd (i_cons (i_new (i_lst i_nil)) (i_cons (i_var 0) i_nil)) (by rfl))
  (is_cons (is_while 300 hp (i_cmpT o_le (i_var 3) (i_var 1) (nomark _))
  (is_cons (is_set 4 sc_cover_in.nd i_int)
  (is_cons (is_while 300 hp (i_bt (i_andT (i_cmpT (o_lt (hu_of hr)) (i_bin o_add (i_var 4) i_int) (i_globI G.i_LEVELS) (nomark _)) (i_andT (i_cmpT (o_eq (hu_of hr)) (i_bin o_mod (i_var 3) (i_callP ((fx_power G).mono (by first | decide | omega)) hr tk (i_cons (i_bin o_add (i_var 4) i_int) i_nil) (len_cons len_nil))) i_int (nomark _)) (i_and1 (i_cmpT o_le (i_bin o_sub (i_bin o_add (i_var 3) (i_callP ((fx_power G).mono (by first | decide | omega)) hr tk (i_cons (i_bin o_add (i_var 4) i_int) i_nil) (len_cons len_nil))) i_int) (i_var 1) (nomark _))))))
  (is_last (is_set 4 sc_cover_in.nd (i_bin o_add (i_var 4) i_int))))
  (is_cons (is_expr (i_app (i_var 2) (i_tup (i_cons (i_var 4) (i_cons (i_bin o_div (i_var 3) (i_callP ((fx_power G).mono (by first | decide | omega)) hr tk (i_cons (i_var 4) i_nil) (len_cons len_nil))) i_nil)))))
  (is_last (is_set 3 sc_cover_in.nd (i_bin o_add (i_var 3) (i_callP ((fx_power G).mono (by first | decide | omega)) hr tk (i_cons (i_var 4) i_nil) (len_cons len_nil)))))))))
  (is_last (is_ret (i_frzR (i_var 2)))))))
theorem fx_need_base : Fx P w K mg base "need_base" 1 2 m_need_base := by
  obtain ⟨f, fd, F, g⟩ := G.d_need_base
  exact fx_of g F.kp (F.bindsN fun _ _ _ _ _ _ us hl => match us, hl with | [_], _ => rfl) rfl (fn_rule F sc_need_base fun cdv A outer s H E hr tk hp => (is_last (is_if (i_notT (i_tru (i_callP ((fx_is_whole G).mono (by first | decide | omega)) hr tk (i_cons (i_var 0) (i_cons i_int (i_cons (i_bin o_pow i_int i_int) i_nil))) (len_cons (len_cons (len_cons len_nil))))))
  (is_last (is_raiseX G.e_InvalidNumber tk))
  is_nil)))
theorem fx_need_columns : Fx P w K mg base "need_columns" 3 4 m_need_columns := by
  obtain ⟨f, fd, F, g⟩ := G.d_need_columns
  exact fx_of g F.kp (F.bindsN fun _ _ _ _ _ _ us hl => match us, hl with | [_, _, _], _ => rfl) rfl (fn_rule F sc_need_columns fun cdv A outer s H E hr tk hp => (is_cons (is_expr (i_callP ((fx_need_span G).mono (by first | decide | omega)) hr tk (i_cons (i_var 0) (i_cons (i_var 1) i_nil)) (len_cons (len_cons len_nil))))
  (is_last (is_if (i_notT (i_tru (i_callP ((fx_is_whole G).mono (by first | decide | omega)) hr tk (i_cons (i_var 2) (i_cons i_int (i_cons (i_cb (c_min rfl) G.f_min (by decide +kernel) (i_cons (i_globI G.i_COLUMNS) (i_cons (i_bin o_add (i_bin o_sub (i_var 1) (i_var 0)) i_int) i_nil))) i_nil))) (len_cons (len_cons (len_cons len_nil))))))
  (is_last (is_raiseX G.e_InvalidNumber tk))
  is_nil))))
theorem fx_need_points : Fx P w K mg base "need_points" 1 4 m_need_points := by
  obtain ⟨f, fd, F, g⟩ := G.d_need_points
  exact fx_of g F.kp (F.bindsN fun _ _ _ _ _ _ us hl => match us, hl with | [_], _ => rfl) rfl (fn_rule F sc_need_points fun cdv A outer s H E hr tk hp => (is_last (is_if (i_bt (i_orT (i_bt (i_andT (i_cmpT (o_ne (hu_of hr)) (i_var 0) (i_tup i_nil) (nomark _)) (i_and1 (i_notT (i_tru (i_callP ((fx_fits_long G).mono (by first | decide | omega)) hr tk (i_cons (i_var 0) i_nil) (len_cons len_nil))))))) (i_or1 (i_notT (i_tru (i_isi .tup (i_var 0) G.f_isinstance G.f_tuple))))))
  (is_last (is_raiseX G.e_InvalidSamples tk))
  is_nil)))
theorem fx_columns_of : Fx P w K mg base "columns_of" 4 5 m_columns_of := by
  obtain ⟨f, fd, F, g⟩ := G.d_columns_of
  exact fx_of g F.kp (F.bindsN fun _ _ _ _ _ _ us hl => match us, hl with | [_, _, _, _], _ => rfl) rfl (fn_rule F sc_columns_of fun cdv A outer s H E hr tk hp => (is_cons (is_expr (i_callP ((fx_need_points G).mono (by first | decide | omega)) hr tk (i_cons (i_var 0) i_nil) (len_cons len_nil)))
  (is_cons (is_expr (i_callP ((fx_need_columns G).mono (by first | decide | omega)) hr tk (i_cons (i_var 1) (i_cons (i_var 2) (i_cons (i_var 3) i_nil))) (len_cons (len_cons (len_cons len_nil)))))
  (is_last (is_ret (i_ct c_tuple G.f_tuple (by decide +kernel) (i_cons (i_frz (i_lc (own := [(Str.ofString "low", 4), (Str.ofString "high", 5)]) sc_columns_of.nd (i_itS (i_callP ((fx_spans_of G).mono (by first | decide | omega)) hr tk (i_cons (i_var 1) (i_cons (i_var 2) (i_cons (i_var 3) i_nil))) (len_cons (len_cons (len_cons len_nil))))) (blkOk_by (by kernel_rfl)) (by decide) (fun _ _ _ _ _ => (ig_s (ig_tup (igs_cons (ig_name 4 sc_columns_of.nd) (igs_cons (ig_name 5 sc_columns_of.nd) igs_nil))))) (fun _ _ _ _ _ => i_ts0) (fun _ _ _ _ _ => (i_callP ((fx_cell_of G).mono (by first | decide | omega)) hr takes0 (i_cons (i_callP ((fx_points_in G).mono (by first | decide | omega)) hr takes0 (i_cons (i_var 0) (i_cons (i_var 4) (i_cons (i_var 5) i_nil))) (len_cons (len_cons (len_cons len_nil)))) i_nil) (len_cons len_nil))))) i_nil)))))))
theorem fx_column_spans : Fx P w K mg base "column_spans" 3 5 m_column_spans := by
  obtain ⟨f, fd, F, g⟩ := G.d_column_spans
  exact fx_of g F.kp (F.bindsN fun _ _ _ _ _ _ us hl => match us, hl with | [_, _, _], _ => rfl) rfl (fn_rule F sc_column_spans fun cdv A outer s H E hr tk hp => (is_cons (is_expr (i_callP ((fx_need_columns G).mono (by first | decide | omega)) hr tk (i_cons (i_var 0) (i_cons (i_var 1) (i_cons (i_var 2) i_nil))) (len_cons (len_cons (len_cons len_nil)))))
  (is_last (is_ret (i_ct c_tuple G.f_tuple (by decide +kernel) (i_cons (i_callP ((fx_spans_of G).mono (by first | decide | omega)) hr tk (i_cons (i_var 0) (i_cons (i_var 1) (i_cons (i_var 2) i_nil))) (len_cons (len_cons (len_cons len_nil)))) i_nil))))))
theorem fx_cells_of : Fx P w K mg base "cells_of" 2 5 m_cells_of := by
  obtain ⟨f, fd, F, g⟩ := G.d_cells_of
  exact fx_of g F.kp (F.bindsN fun _ _ _ _ _ _ us hl => match us, hl with | [_, _], _ => rfl) rfl (fn_rule F sc_cells_of fun cdv A outer s H E hr tk hp => (is_cons (is_expr (i_callP ((fx_need_points G).mono (by first | decide | omega)) hr tk (i_cons (i_var 0) i_nil) (len_cons len_nil)))
  (is_cons (is_expr (i_callP ((fx_need_base G).mono (by first | decide | omega)) hr tk (i_cons (i_var 1) i_nil) (len_cons len_nil)))
  (is_last (is_ret (i_ct c_tuple G.f_tuple (by decide +kernel) (i_cons (i_frz (i_sortItemsH (i_callS ((fx_pyramid_in G).mono (by first | decide | omega)) hr tk (i_cons (i_var 0) (i_cons (i_var 1) i_nil)) (len_cons (len_cons len_nil))) G.f_sorted (hu_of hr))) i_nil)))))))
theorem fx_cover : Fx P w K mg base "cover" 2 3 m_cover := by
  obtain ⟨f, fd, F, g⟩ := G.d_cover
  exact fx_of g F.kp (F.bindsN fun _ _ _ _ _ _ us hl => match us, hl with | [_, _], _ => rfl) rfl (fn_rule F sc_cover fun cdv A outer s H E hr tk hp => (is_cons (is_if (i_bt (i_orT (i_notT (i_tru (i_callP ((fx_is_whole G).mono (by first | decide | omega)) hr tk (i_cons (i_var 0) (i_cons i_int (i_cons (i_globI G.i_TIME) i_nil))) (len_cons (len_cons (len_cons len_nil)))))) (i_or1 (i_notT (i_tru (i_callP ((fx_is_whole G).mono (by first | decide | omega)) hr tk (i_cons (i_var 1) (i_cons (i_var 0) (i_cons (i_globI G.i_TIME) i_nil))) (len_cons (len_cons (len_cons len_nil)))))))))
  (is_last (is_raiseX G.e_InvalidNumber tk))
  is_nil)
  (is_last (is_ret (i_ct c_tuple G.f_tuple (by decide +kernel) (i_cons (i_callP ((fx_cover_in G).mono (by first | decide | omega)) hr tk (i_cons (i_var 0) (i_cons (i_var 1) i_nil)) (len_cons (len_cons len_nil))) i_nil))))))
theorem fx__law_cup : Fx P w K mg base "_law_cup" 1 1 m__law_cup := by
  obtain ⟨f, fd, F, g⟩ := G.d__law_cup
  exact fx_of g F.kp (F.bindsN fun _ _ _ _ _ _ us hl => match us, hl with | [_], _ => rfl) rfl (fn_rule F sc__law_cup fun cdv A outer s H E hr tk hp => (is_cons (is_set 1 sc__law_cup.nd (i_cb c_abs G.f_abs (by decide +kernel) (i_cons (i_ix o_ix (i_frz (i_op2L o_addL (i_frz (i_ctL c_list G.f_list (by decide +kernel) (i_cons (i_var 0) i_nil))) (i_frz (i_lst (i_cons i_int i_nil))))) i_int) i_nil)))
  (is_last (is_ret (i_new (i_lst (i_cons (i_ifE (i_cmpT o_ge (i_var 1) (i_bin o_pow i_int i_int) (nomark _)) (i_bin o_div (i_var 1) i_int) i_int) (i_cons (i_bin o_add (i_bin o_mod (i_ct c_int G.f_int (by decide +kernel) (i_cons (i_bin o_add (i_bin o_mul (i_var 1) i_int) i_int) i_nil)) i_int) i_int) i_nil))))))))
theorem fx__law_roll : Fx P w K mg base "_law_roll" 2 1 m__law_roll := by
  obtain ⟨f, fd, F, g⟩ := G.d__law_roll
  exact fx_of g F.kp (F.bindsN fun _ _ _ _ _ _ us hl => match us, hl with | [_, _], _ => rfl) rfl (fn_rule F sc__law_roll fun cdv A outer s H E hr tk hp => (is_cons (is_if (i_cmpT o_gt (i_ix o_ix (i_var 0) i_int) i_int (nomark _))
  (is_cons (is_set 3 sc__law_roll.nd (i_bin o_mod (i_ct c_int G.f_int (by decide +kernel) (i_cons (i_ix o_ix (i_var 0) i_int) i_nil)) (i_var 1)))
  (is_cons (is_put (hu_of hr) (i_bin o_div (i_ix o_ix (i_var 0) i_int) (i_var 1)) (i_var 0) i_int)
  (is_last (is_ret (i_var 3)))))
  is_nil)
  (is_cons (is_put (hu_of hr) (i_bin o_mod (i_ct c_int G.f_int (by decide +kernel) (i_cons (i_bin o_add (i_bin o_mul (i_ix o_ix (i_var 0) i_int) i_int) i_int) i_nil)) i_int) (i_var 0) i_int)
  (is_cons (is_set 2 sc__law_roll.nd (i_bin o_mod (i_ct c_int G.f_int (by decide +kernel) (i_cons (i_bin o_mul (i_ix o_ix (i_var 0) i_int) (i_bin o_add (i_ix o_ix (i_var 0) i_int) i_int)) i_nil)) i_int))
  (is_last (is_ret (i_bin o_mod (i_ct c_int G.f_int (by decide +kernel) (i_cons (i_bin o_div (i_var 2) i_int) i_nil)) (i_var 1))))))))
theorem fx__law_some : Fx P w K mg base "_law_some" 2 2 m__law_some := by
  obtain ⟨f, fd, F, g⟩ := G.d__law_some
  exact fx_of g F.kp (F.bindsN fun _ _ _ _ _ _ us hl => match us, hl with | [_, _], _ => rfl) rfl (fn_rule F sc__law_some fun cdv A outer s H E hr tk hp => (is_last (is_ret (i_ix o_ix (i_var 1) (i_call1 ((fx__law_roll G).mono (by first | decide | omega)) hr tk (i_cons (i_var 0) (i_cons (i_cb c_len G.f_len (by decide +kernel) (i_cons (i_var 1) i_nil)) i_nil)) (len_cons (len_cons len_nil)))))))
theorem fx__law_same : ∀ n : Nat, Fx P w K mg base "_law_same" 2 (1 + n) (m__law_same n)
  | 0 => by
    obtain ⟨f, fd, F, g⟩ := G.d__law_same
    exact fx_of g F.kp (F.bindsN fun _ _ _ _ _ _ us hl => match us, hl with | [_, _], _ => rfl) rfl (fn_rule F sc__law_same fun cdv A outer s H E hr tk hp => iss_no)
  | n + 1 => by
    have ih := fx__law_same n
    obtain ⟨f, fd, F, g⟩ := G.d__law_same
    exact fx_of g F.kp (F.bindsN fun _ _ _ _ _ _ us hl => match us, hl with | [_, _], _ => rfl) rfl (fn_rule F sc__law_same fun cdv A outer s H E hr tk hp => (is_cons (is_if (i_tru (i_isi .tup (i_var 1) G.f_isinstance G.f_tuple))
  (is_cons (is_if (i_bt (i_orT (i_notT (i_tru (i_isi .tup (i_var 0) G.f_isinstance G.f_tuple))) (i_or1 (i_cmpT (o_ne (hu_of hr)) (i_cb c_len G.f_len (by decide +kernel) (i_cons (i_var 0) i_nil)) (i_cb c_len G.f_len (by decide +kernel) (i_cons (i_var 1) i_nil)) (nomark _)))))
  (is_last (is_ret i_bl))
  is_nil)
  (is_last (is_ret (i_cb (c_all rfl) G.f_all (by decide +kernel) (i_cons (i_frz (i_lc (own := [(Str.ofString "at", 2)]) sc__law_same.nd (i_range1 G.f_range (i_cons (i_cb c_len G.f_len (by decide +kernel) (i_cons (i_var 1) i_nil)) i_nil)) (blkOk_by (by kernel_rfl)) (by decide) (fun _ _ _ _ _ => (ig_s (ig_name 2 sc__law_same.nd))) (fun _ _ _ _ _ => i_ts0) (fun _ _ _ _ _ => (i_callP (ih.mono (Nat.le_refl _)) hr takes0 (i_cons (i_ix o_ix (i_var 0) (i_var 2)) (i_cons (i_ix o_ix (i_var 1) (i_var 2)) i_nil)) (len_cons (len_cons len_nil)))))) i_nil)))))
  is_nil)
  (is_cons (is_if (i_cmpT o_isN (i_var 1) i_non (nomark _))
  (is_last (is_ret (i_cmp o_isN (i_var 0) i_non (nomark _))))
  is_nil)
  (is_cons (is_if (i_tru (i_isi .bool (i_var 1) G.f_isinstance G.f_bool))
  (is_last (is_ret (i_ifE (i_tru (i_var 1)) (i_cmp o_isB (i_var 0) i_bl (nomark _)) (i_cmp o_isB (i_var 0) i_bl (nomark _)))))
  is_nil)
  (is_cons (is_if (i_tru (i_isi .int (i_var 1) G.f_isinstance G.f_int))
  (is_last (is_ret (i_andV (i_isi .int (i_var 0) G.f_isinstance G.f_int) (i_andV (i_notV (i_isi .bool (i_var 0) G.f_isinstance G.f_bool)) (i_one (i_cmp (o_eq (hu_of hr)) (i_ct c_int G.f_int (by decide +kernel) (i_cons (i_var 0) i_nil)) (i_var 1) (nomark _)))))))
  is_nil)
  (is_last (is_ret (i_andV (i_isi .str (i_var 0) G.f_isinstance G.f_str) (i_one (i_cmp (o_eq (hu_of hr)) i_no (i_var 1) (nomark _)))))))))))
theorem fx__law_cell : Fx P w K mg base "_law_cell" 1 1 m__law_cell := by
  obtain ⟨f, fd, F, g⟩ := G.d__law_cell
  exact fx_of g F.kp (F.bindsN fun _ _ _ _ _ _ us hl => match us, hl with | [_], _ => rfl) rfl (fn_rule F sc__law_cell fun cdv A outer s H E hr tk hp => (is_cons (is_if (i_cmpT (o_eq (hu_of hr)) (i_var 0) (i_frz (i_lst i_nil)) (nomark _))
  (is_last (is_ret i_non))
  is_nil)
  (is_cons (is_setL (is_lcS (i := 1) (own := [(Str.ofString "time", 2), (Str.ofString "value", 3)]) sc__law_cell.nd (i_itS (i_var 0)) (blkOk_by (by kernel_rfl)) (by decide) (fun _ _ _ _ _ => (ig_s (ig_tup (igs_cons (ig_name 2 sc__law_cell.nd) (igs_cons (ig_name 3 sc__law_cell.nd) igs_nil))))) (fun _ _ _ _ _ => i_ts0) (fun _ _ _ _ _ => (i_var 3)) (sw_true rfl rfl rfl rfl)))
  (is_last (is_ret (i_tup (i_cons (i_cb c_len G.f_len (by decide +kernel) (i_cons (i_var 0) i_nil)) (i_cons (i_ix o_ix (i_var 0) i_int) (i_cons (i_ix o_ix (i_var 0) (i_negD i_int)) (i_cons (i_cb (c_min rfl) G.f_min (by decide +kernel) (i_cons (i_var 1) i_nil)) (i_cons (i_cb (c_max rfl) G.f_max (by decide +kernel) (i_cons (i_var 1) i_nil)) (i_cons (i_cb (c_sum rfl) G.f_sum (by decide +kernel) (i_cons (i_var 1) i_nil)) i_nil))))))))))))
theorem fx__law_pyramid : Fx P w K mg base "_law_pyramid" 2 2 m__law_pyramid := by
  obtain ⟨f, fd, F, g⟩ := G.d__law_pyramid
  exact fx_of g F.kp (F.bindsN fun _ _ _ _ _ _ us hl => match us, hl with | [_, _], _ => rfl) rfl (fn_rule F sc__law_pyramid fun cdv A outer s H E hr tk hp => (is_cons (is_set 2 sc__law_pyramid.nd (i_new (i_lst i_nil)))
  (is_cons (is_set 3 sc__law_pyramid.nd (i_var 1))
  (is_cons (is_for hp (i_range1 G.f_range (i_cons i_int i_nil)) (ig_s (ig_name 4 sc__law_pyramid.nd))
  (is_cons (is_for hp (i_itS (i_frz (i_sortSet (i_lc (own := [(Str.ofString "time", 6), (Str.ofString "value", 7)]) sc__law_pyramid.nd (i_itS (i_var 0)) (blkOk_by (by kernel_rfl)) (by decide) (fun _ _ _ _ _ => (ig_s (ig_tup (igs_cons (ig_name 6 sc__law_pyramid.nd) (igs_cons (ig_name 7 sc__law_pyramid.nd) igs_nil))))) (fun _ _ _ _ _ => i_ts0) (fun _ _ _ _ _ => (i_bin o_div (i_var 6) (i_var 3)))) G.f_sorted G.f_set))) (ig_s (ig_name 5 sc__law_pyramid.nd))
  (is_last (is_expr (i_app (i_var 2) (i_tup (i_cons (i_tup (i_cons (i_var 4) (i_cons (i_var 5) i_nil))) (i_cons (i_callP ((fx__law_cell G).mono (by first | decide | omega)) hr tk (i_cons (i_frz (i_lc (own := [(Str.ofString "time", 6), (Str.ofString "value", 7)]) sc__law_pyramid.nd (i_itS (i_var 0)) (blkOk_by (by kernel_rfl)) (by decide) (fun _ _ _ _ _ => (ig_s (ig_tup (igs_cons (ig_name 6 sc__law_pyramid.nd) (igs_cons (ig_name 7 sc__law_pyramid.nd) igs_nil))))) (fun _ _ _ _ _ => (i_ts1 (i_chainT o_le (o_lt (hu_of hr)) (i_bin o_mul (i_var 5) (i_var 3)) (i_var 6) (i_bin o_mul (i_bin o_add (i_var 5) i_int) (i_var 3))))) (fun _ _ _ _ _ => (i_tup (i_cons (i_var 6) (i_cons (i_var 7) i_nil)))))) i_nil) (len_cons len_nil)) i_nil)))))))
  (is_last (is_set 3 sc__law_pyramid.nd (i_bin o_mul i_int (i_var 3))))))
  (is_last (is_ret (i_ct c_tuple G.f_tuple (by decide +kernel) (i_cons (i_frz (i_cbL (c_sorted (hu_of hr)) G.f_sorted (by decide +kernel) (i_cons (i_var 2) i_nil))) i_nil))))))))
theorem fx__law_columns : Fx P w K mg base "_law_columns" 3 1 m__law_columns := by
  obtain ⟨f, fd, F, g⟩ := G.d__law_columns
  exact fx_of g F.kp (F.bindsN fun _ _ _ _ _ _ us hl => match us, hl with | [_, _, _], _ => rfl) rfl (fn_rule F sc__law_columns fun cdv A outer s H E hr tk hp => (is_cons (is_par 4 5 sc__law_columns.nd (i_cons (i_new (i_lst i_nil)) (i_cons (i_var 0) i_nil)) (by rfl))
  (is_cons (is_for hp (i_range3 G.f_range (i_cons (i_var 2) (i_cons i_int (i_cons (i_negD i_int) i_nil)))) (ig_s (ig_name 3 sc__law_columns.nd))
  (is_cons (is_set 6 sc__law_columns.nd (i_bin o_div (i_bin o_sub (i_bin o_add (i_bin o_sub (i_bin o_add (i_var 1) i_int) (i_var 5)) (i_var 3)) i_int) (i_var 3)))
  (is_cons (is_expr (i_app (i_var 4) (i_tup (i_cons (i_var 5) (i_cons (i_bin o_sub (i_bin o_add (i_var 5) (i_var 6)) i_int) i_nil)))))
  (is_last (is_set 5 sc__law_columns.nd (i_bin o_add (i_var 5) (i_var 6)))))))
  (is_last (is_ret (i_frzR (i_var 4)))))))
theorem mk_View : Cx' P w K mg base "View" 2 3 m_View___init__ := by
  obtain ⟨f, fd, F, g1, g2⟩ := G.d_View___init__
  exact ⟨f, fd, _, g2, g1, (F.bindsN fun _ _ _ _ _ _ us hl => match us, hl with | [_, _], _ => rfl), rfl, fn_rule F sc_View___init__ fun cdv A outer s H E hr tk hp => (is_cons (is_expr (i_callP ((fx_need_base G).mono (by first | decide | omega)) hr tk (i_cons (i_var 1) i_nil) (len_cons len_nil)))
  (is_last (is_asgR (igr_cons (ig_fld G.c_View G.n_View_base (i_var 0)) (igr_cons (ig_fld G.c_View G.n_View_points (i_var 0)) (igr_cons (ig_fld G.c_View G.n_View_cells (i_var 0)) (igr_cons (ig_fld G.c_View G.n_View_made (i_var 0)) igr_nil)))) (i_cons (i_var 1) (i_cons i_dic0 (i_cons i_dicH0 (i_cons i_int i_nil)))))))⟩
theorem mx_View_put : Mx P w K mg base "View" (Str.ofString "put") 4 1 m_View_put := by
  obtain ⟨f, fd, F, g⟩ := G.d_View_put
  exact ⟨f, fd, _, G.c_View, g, (F.bindsN fun _ _ _ _ _ _ us hl => match us, hl with | [_, _, _, _], _ => rfl), rfl, fn_rule F sc_View_put fun cdv A outer s H E hr tk hp => (is_cons (is_setF G.c_View G.n_View_made (i_bin o_add (i_fld G.c_View G.n_View_made (i_var 0)) i_int) (i_var 0))
  (is_last (is_if (i_cmpT o_notN (i_var 3) i_non (nomark _))
  (is_last (is_putH (hu_of hr) (i_var 3) (i_fld G.c_View G.n_View_cells (i_var 0)) (i_tup (i_cons (i_var 1) (i_cons (i_var 2) i_nil)))))
  (is_last (is_if (i_dinT (hu_of hr) (i_tup (i_cons (i_var 1) (i_cons (i_var 2) i_nil))) (i_fld G.c_View G.n_View_cells (i_var 0)))
  (is_last (is_expr (i_dpop (hu_of hr) (i_fld G.c_View G.n_View_cells (i_var 0)) (i_tup (i_cons (i_var 1) (i_cons (i_var 2) i_nil))))))
  is_nil)))))⟩
theorem mx_View_renew : Mx P w K mg base "View" (Str.ofString "renew") 2 3 m_View_renew := by
  obtain ⟨f, fd, F, g⟩ := G.d_View_renew
  exact ⟨f, fd, _, G.c_View, g, (F.bindsN fun _ _ _ _ _ _ us hl => match us, hl with | [_, _], _ => rfl), rfl, fn_rule F sc_View_renew fun cdv A outer s H E hr tk hp => (is_cons (is_set 2 sc_View_renew.nd (i_bin o_div (i_var 1) (i_fld G.c_View G.n_View_base (i_var 0))))
  (is_cons (is_set 3 sc_View_renew.nd (i_bin o_mul (i_var 2) (i_fld G.c_View G.n_View_base (i_var 0))))
  (is_cons (is_set 4 sc_View_renew.nd (i_frz (i_cbL (c_sorted (hu_of hr)) G.f_sorted (by decide +kernel) (i_cons (i_frz (i_lockL (mFld "View" (Str.ofString "points") (mVar 0)) (i_lc (own := [(Str.ofString "at", 7), (Str.ofString "value", 8)]) sc_View_renew.nd (i_itDI (i_fld G.c_View G.n_View_points (i_var 0))) (blkOk_by (by kernel_rfl)) (by decide) (fun _ _ _ _ _ => (ig_tupW (igs_cons (ig_name 7 sc_View_renew.nd) (igs_cons (ig_name 8 sc_View_renew.nd) igs_nil)))) (fun _ _ _ _ _ => (i_ts1 (i_chainT o_le (o_lt (hu_of hr)) (i_var 3) (i_var 7) (i_bin o_add (i_var 3) (i_fld G.c_View G.n_View_base (i_var 0)))))) (fun _ _ _ _ _ => (i_tup (i_cons (i_var 7) (i_cons (i_var 8) i_nil))))))) i_nil))))
  (is_cons (is_expr (i_meth ((mx_View_put G).mono (by first | decide | omega)) hr tk (i_var 0) (i_cons i_int (i_cons (i_var 2) (i_cons (i_callP ((fx_cell_of G).mono (by first | decide | omega)) hr tk (i_cons (i_ct c_tuple G.f_tuple (by decide +kernel) (i_cons (i_var 4) i_nil)) i_nil) (len_cons len_nil)) i_nil))) (len_cons (len_cons (len_cons len_nil)))))
  (is_last (is_for hp (i_range2 G.f_range (i_cons i_int (i_cons (i_globI G.i_LEVELS) i_nil))) (ig_s (ig_name 5 sc_View_renew.nd))
  (is_cons (is_set 2 sc_View_renew.nd (i_bin o_div (i_var 2) i_int))
  (is_cons (is_set 6 sc_View_renew.nd (i_frz (i_lst (i_cons (i_dget1 (hu_of hr) (i_fld G.c_View G.n_View_cells (i_var 0)) (i_tup (i_cons (i_bin o_sub (i_var 5) i_int) (i_cons (i_bin o_mul i_int (i_var 2)) i_nil)))) (i_cons (i_dget1 (hu_of hr) (i_fld G.c_View G.n_View_cells (i_var 0)) (i_tup (i_cons (i_bin o_sub (i_var 5) i_int) (i_cons (i_bin o_add (i_bin o_mul i_int (i_var 2)) i_int) i_nil)))) i_nil)))))
  (is_last (is_expr (i_meth ((mx_View_put G).mono (by first | decide | omega)) hr tk (i_var 0) (i_cons (i_var 5) (i_cons (i_var 2) (i_cons (i_callP ((fx_joined_all G).mono (by first | decide | omega)) hr tk (i_cons (i_var 6) i_nil) (len_cons len_nil)) i_nil))) (len_cons (len_cons (len_cons len_nil))))))))))))))⟩
theorem mx_View_write : Mx P w K mg base "View" (Str.ofString "write") 3 4 m_View_write := by
  obtain ⟨f, fd, F, g⟩ := G.d_View_write
  exact ⟨f, fd, _, G.c_View, g, (F.bindsN fun _ _ _ _ _ _ us hl => match us, hl with | [_, _, _], _ => rfl), rfl, fn_rule F sc_View_write fun cdv A outer s H E hr tk hp => (is_cons (is_if (i_notT (i_tru (i_callP ((fx_fits_point G).mono (by first | decide | omega)) hr tk (i_cons (i_tup (i_cons (i_var 1) (i_cons (i_var 2) i_nil))) i_nil) (len_cons len_nil))))
  (is_last (is_raiseX G.e_InvalidNumber tk))
  is_nil)
  (is_cons (is_if (i_bt (i_andT (i_dnotInT (hu_of hr) (i_var 1) (i_fld G.c_View G.n_View_points (i_var 0))) (i_and1 (i_cmpT (o_eq (hu_of hr)) (i_dlen G.f_len (i_fld G.c_View G.n_View_points (i_var 0))) (i_globI G.i_CELLS) (nomark _)))))
  (is_last is_no)
  is_nil)
  (is_cons (is_put (hu_of hr) (i_var 2) (i_fld G.c_View G.n_View_points (i_var 0)) (i_var 1))
  (is_last (is_expr (i_meth ((mx_View_renew G).mono (by first | decide | omega)) hr tk (i_var 0) (i_cons (i_var 1) i_nil) (len_cons len_nil)))))))⟩
theorem mx_View_delete : Mx P w K mg base "View" (Str.ofString "delete") 3 4 m_View_delete := by
  obtain ⟨f, fd, F, g⟩ := G.d_View_delete
  exact ⟨f, fd, _, G.c_View, g, (F.bindsN fun _ _ _ _ _ _ us hl => match us, hl with | [_, _, _], _ => rfl), rfl, fn_rule F sc_View_delete fun cdv A outer s H E hr tk hp => (is_cons (is_expr (i_callP ((fx_need_span G).mono (by first | decide | omega)) hr tk (i_cons (i_var 1) (i_cons (i_var 2) i_nil)) (len_cons (len_cons len_nil))))
  (is_cons (is_setL (is_lockL (mFld "View" (Str.ofString "points") (mVar 0)) (is_lcS (i := 3) (own := [(Str.ofString "time", 4)]) sc_View_delete.nd (i_itDK (i_fld G.c_View G.n_View_points (i_var 0))) (blkOk_by (by kernel_rfl)) (by decide) (fun _ _ _ _ _ => (ig_s (ig_name 4 sc_View_delete.nd))) (fun _ _ _ _ _ => (i_ts1 (i_chainT o_le o_le (i_var 1) (i_var 4) (i_var 2)))) (fun _ _ _ _ _ => (i_var 4)) (sw_true rfl rfl rfl rfl))))
  (is_cons (is_for hp (i_itS (i_var 3)) (ig_s (ig_name 4 sc_View_delete.nd))
  (is_cons (is_expr (i_dpop (hu_of hr) (i_fld G.c_View G.n_View_points (i_var 0)) (i_var 4)))
  (is_last (is_expr (i_meth ((mx_View_renew G).mono (by first | decide | omega)) hr tk (i_var 0) (i_cons (i_var 4) i_nil) (len_cons len_nil))))))
  (is_last (is_ret (i_cb c_len G.f_len (by decide +kernel) (i_cons (i_var 3) i_nil)))))))⟩
theorem mx_View_all_cells : Mx P w K mg base "View" (Str.ofString "all_cells") 1 1 m_View_all_cells := by
  obtain ⟨f, fd, F, g⟩ := G.d_View_all_cells
  exact ⟨f, fd, _, G.c_View, g, (F.bindsN fun _ _ _ _ _ _ us hl => match us, hl with | [_], _ => rfl), rfl, fn_rule F sc_View_all_cells fun cdv A outer s H E hr tk hp => (is_last (is_ret (i_ct c_tuple G.f_tuple (by decide +kernel) (i_cons (i_frz (i_sortItemsH (i_fld G.c_View G.n_View_cells (i_var 0)) G.f_sorted (hu_of hr))) i_nil))))⟩
theorem mx_View_span : Mx P w K mg base "View" (Str.ofString "span") 3 4 m_View_span := by
  obtain ⟨f, fd, F, g⟩ := G.d_View_span
  exact ⟨f, fd, _, G.c_View, g, (F.bindsN fun _ _ _ _ _ _ us hl => match us, hl with | [_, _, _], _ => rfl), rfl, fn_rule F sc_View_span fun cdv A outer s H E hr tk hp => (is_cons (is_expr (i_callP ((fx_need_span G).mono (by first | decide | omega)) hr tk (i_cons (i_var 1) (i_cons (i_var 2) i_nil)) (len_cons (len_cons len_nil))))
  (is_cons (is_par 8 9 sc_View_span.nd (i_cons (i_negD (i_bin o_div (i_negD (i_var 1)) (i_fld G.c_View G.n_View_base (i_var 0)))) (i_cons (i_bin o_sub (i_bin o_div (i_bin o_add (i_var 2) i_int) (i_fld G.c_View G.n_View_base (i_var 0))) i_int) i_nil)) (by rfl))
  (is_cons (is_if (i_cmpT o_gt (i_var 8) (i_var 9) (nomark _))
  (is_cons (is_set 10 sc_View_span.nd (i_frz (i_cbL (c_sorted (hu_of hr)) G.f_sorted (by decide +kernel) (i_cons (i_frz (i_lockL (mFld "View" (Str.ofString "points") (mVar 0)) (i_lc (own := [(Str.ofString "at", 14), (Str.ofString "value", 15)]) sc_View_span.nd (i_itDI (i_fld G.c_View G.n_View_points (i_var 0))) (blkOk_by (by kernel_rfl)) (by decide) (fun _ _ _ _ _ => (ig_tupW (igs_cons (ig_name 14 sc_View_span.nd) (igs_cons (ig_name 15 sc_View_span.nd) igs_nil)))) (fun _ _ _ _ _ => (i_ts1 (i_chainT o_le o_le (i_var 1) (i_var 14) (i_var 2)))) (fun _ _ _ _ _ => (i_tup (i_cons (i_var 14) (i_cons (i_var 15) i_nil))))))) i_nil))))
  (is_last (is_ret (i_tup (i_cons (i_callP ((fx_cell_of G).mono (by first | decide | omega)) hr tk (i_cons (i_ct c_tuple G.f_tuple (by decide +kernel) (i_cons (i_var 10) i_nil)) i_nil) (len_cons len_nil)) (i_cons (i_cb c_len G.f_len (by decide +kernel) (i_cons (i_var 10) i_nil)) i_nil))))))
  is_nil)
  (is_cons (is_set 3 sc_View_span.nd (i_frz (i_lst (i_cons (i_tup (i_cons (i_var 1) (i_cons (i_bin o_sub (i_bin o_mul (i_var 8) (i_fld G.c_View G.n_View_base (i_var 0))) i_int) i_nil))) (i_cons (i_tup (i_cons (i_bin o_mul (i_bin o_add (i_var 9) i_int) (i_fld G.c_View G.n_View_base (i_var 0))) (i_cons (i_var 2) i_nil))) i_nil)))))
  (is_cons (is_set 4 sc_View_span.nd (i_frz (i_sortItems (i_fld G.c_View G.n_View_points (i_var 0)) G.f_sorted (hu_of hr))))
  (is_cons (is_setL (is_lcS (i := 5) (own := [(Str.ofString "low", 12), (Str.ofString "high", 13)]) sc_View_span.nd (i_itS (i_var 3)) (blkOk_by (by kernel_rfl)) (by decide) (fun _ _ _ _ _ => (ig_s (ig_tup (igs_cons (ig_name 12 sc_View_span.nd) (igs_cons (ig_name 13 sc_View_span.nd) igs_nil))))) (fun _ _ _ _ _ => i_ts0) (fun _ _ _ _ _ => (i_callP ((fx_points_in G).mono (by first | decide | omega)) hr takes0 (i_cons (i_var 4) (i_cons (i_var 12) (i_cons (i_var 13) i_nil))) (len_cons (len_cons (len_cons len_nil))))) (sw_true rfl rfl rfl rfl)))
  (is_cons (is_setL (is_lcS (i := 6) (own := [(Str.ofString "key", 11)]) sc_View_span.nd (i_itS (i_callP ((fx_cover_in G).mono (by first | decide | omega)) hr tk (i_cons (i_var 8) (i_cons (i_var 9) i_nil)) (len_cons (len_cons len_nil)))) (blkOk_by (by kernel_rfl)) (by decide) (fun _ _ _ _ _ => (ig_s (ig_name 11 sc_View_span.nd))) (fun _ _ _ _ _ => (i_ts1 (i_dinT (hu_of hr) (i_var 11) (i_fld G.c_View G.n_View_cells (i_var 0))))) (fun _ _ _ _ _ => (i_dget (hu_of hr) (i_fld G.c_View G.n_View_cells (i_var 0)) (i_var 11))) (sw_true rfl rfl rfl rfl)))
  (is_cons (is_set 7 sc_View_span.nd (i_callP ((fx_joined_all G).mono (by first | decide | omega)) hr tk (i_cons (i_frz (i_op2L o_addL (i_frz (i_op2L o_addL (i_frz (i_lst (i_cons (i_callP ((fx_cell_of G).mono (by first | decide | omega)) hr tk (i_cons (i_ix o_ix (i_var 5) i_int) i_nil) (len_cons len_nil)) i_nil))) (i_var 6))) (i_frz (i_lst (i_cons (i_callP ((fx_cell_of G).mono (by first | decide | omega)) hr tk (i_cons (i_ix o_ix (i_var 5) i_int) i_nil) (len_cons len_nil)) i_nil))))) i_nil) (len_cons len_nil)))
  (is_last (is_ret (i_tup (i_cons (i_var 7) (i_cons (i_bin o_add (i_bin o_add (i_cb c_len G.f_len (by decide +kernel) (i_cons (i_var 6) i_nil)) (i_cb c_len G.f_len (by decide +kernel) (i_cons (i_ix o_ix (i_var 5) i_int) i_nil))) (i_cb c_len G.f_len (by decide +kernel) (i_cons (i_ix o_ix (i_var 5) i_int) i_nil))) i_nil)))))))))))))⟩
theorem mx_View_columns : Mx P w K mg base "View" (Str.ofString "columns") 4 5 m_View_columns := by
  obtain ⟨f, fd, F, g⟩ := G.d_View_columns
  exact ⟨f, fd, _, G.c_View, g, (F.bindsN fun _ _ _ _ _ _ us hl => match us, hl with | [_, _, _, _], _ => rfl), rfl, fn_rule F sc_View_columns fun cdv A outer s H E hr tk hp => (is_cons (is_expr (i_callP ((fx_need_columns G).mono (by first | decide | omega)) hr tk (i_cons (i_var 1) (i_cons (i_var 2) (i_cons (i_var 3) i_nil))) (len_cons (len_cons (len_cons len_nil)))))
  (is_last (is_ret (i_ct c_tuple G.f_tuple (by decide +kernel) (i_cons (i_frz (i_lc (own := [(Str.ofString "low", 4), (Str.ofString "high", 5)]) sc_View_columns.nd (i_itS (i_callP ((fx_spans_of G).mono (by first | decide | omega)) hr tk (i_cons (i_var 1) (i_cons (i_var 2) (i_cons (i_var 3) i_nil))) (len_cons (len_cons (len_cons len_nil))))) (blkOk_by (by kernel_rfl)) (by decide) (fun _ _ _ _ _ => (ig_s (ig_tup (igs_cons (ig_name 4 sc_View_columns.nd) (igs_cons (ig_name 5 sc_View_columns.nd) igs_nil))))) (fun _ _ _ _ _ => i_ts0) (fun _ _ _ _ _ => (i_ix o_ix (i_meth ((mx_View_span G).mono (by first | decide | omega)) hr takes0 (i_var 0) (i_cons (i_var 4) (i_cons (i_var 5) i_nil)) (len_cons (len_cons len_nil))) i_int)))) i_nil)))))⟩
theorem mx_View_work : Mx P w K mg base "View" (Str.ofString "work") 1 1 m_View_work := by
  obtain ⟨f, fd, F, g⟩ := G.d_View_work
  exact ⟨f, fd, _, G.c_View, g, (F.bindsN fun _ _ _ _ _ _ us hl => match us, hl with | [_], _ => rfl), rfl, fn_rule F sc_View_work fun cdv A outer s H E hr tk hp => (is_last (is_ret (i_fld G.c_View G.n_View_made (i_var 0))))⟩
theorem ok_law {f : Addr} {fd : FuncData} (F : FunD K "law" "law" (defArgs (top 45)) (defBody (top 45)) (defScope (top 45)) [] [] f fd) : FnOk P w K mg base (L2.CX P w) 10 f fd ["script"] (spF w K mg 1 m_law) :=
  fn_rule F sc_law fun cdv A outer s H E hr tk hp => (is_cons (is_set 1 sc_law.nd (i_callS ((fx__law_cup G).mono (by first | decide | omega)) hr tk (i_cons (i_var 0) i_nil) (len_cons len_nil)))
  (is_cons (is_for hp (i_range1 G.f_range (i_cons i_int i_nil)) (ig_s (ig_name 2 sc_law.nd))
  (is_cons (is_asgR (igr_cons (ig_name 8 sc_law.nd) (igr_cons (ig_name 9 sc_law.nd) igr_nil)) (i_cons (i_call1 ((fx__law_some G).mono (by first | decide | omega)) hr tk (i_cons (i_var 1) (i_cons (i_frz (i_lst (i_cons i_int (i_cons i_int (i_cons i_int (i_cons i_int i_nil)))))) i_nil)) (len_cons (len_cons len_nil))) (i_cons (i_call1 ((fx__law_some G).mono (by first | decide | omega)) hr tk (i_cons (i_var 1) (i_cons (i_frz (i_lst (i_cons i_int (i_cons i_int i_nil)))) i_nil)) (len_cons (len_cons len_nil))) i_nil)))
  (is_cons (is_asgR (igr_cons (ig_name 3 sc_law.nd) (igr_cons (ig_name 10 sc_law.nd) (igr_cons (ig_name 11 sc_law.nd) igr_nil))) (i_cons (i_make ((mk_View G).mono (by first | decide | omega)) hr tk (i_cons (i_var 8) i_nil) (len_cons len_nil)) (i_cons i_dic0 (i_cons i_int i_nil))))
  (is_cons (is_for hp (i_range1 G.f_range (i_cons (i_call1 ((fx__law_roll G).mono (by first | decide | omega)) hr tk (i_cons (i_var 1) (i_cons i_int i_nil)) (len_cons (len_cons len_nil))) i_nil)) (ig_s (ig_name 4 sc_law.nd))
  (is_last (is_if (i_cmpT (o_eq (hu_of hr)) (i_call1 ((fx__law_roll G).mono (by first | decide | omega)) hr tk (i_cons (i_var 1) (i_cons i_int i_nil)) (len_cons (len_cons len_nil))) i_int (nomark _))
  (is_cons (is_set 12 sc_law.nd (i_call1 ((fx__law_roll G).mono (by first | decide | omega)) hr tk (i_cons (i_var 1) (i_cons (i_var 9) i_nil)) (len_cons (len_cons len_nil))))
  (is_cons (is_set 13 sc_law.nd (i_bin o_add (i_var 12) (i_call1 ((fx__law_roll G).mono (by first | decide | omega)) hr tk (i_cons (i_var 1) (i_cons i_int i_nil)) (len_cons (len_cons len_nil)))))
  (is_cons (is_set 20 sc_law.nd (i_frz (i_lockL (mVar 10) (i_lc (own := [(Str.ofString "time", 23)]) sc_law.nd (i_itDK (i_var 10)) (blkOk_by (by kernel_rfl)) (by decide) (fun _ _ _ _ _ => (ig_s (ig_name 23 sc_law.nd))) (fun _ _ _ _ _ => (i_ts1 (i_chainT o_le o_le (i_var 12) (i_var 23) (i_var 13)))) (fun _ _ _ _ _ => (i_var 23))))))
  (is_cons (is_if (i_cmpT (o_ne (hu_of hr)) (i_meth ((mx_View_delete G).mono (by first | decide | omega)) hr tk (i_var 3) (i_cons (i_var 12) (i_cons (i_var 13) i_nil)) (len_cons (len_cons len_nil))) (i_cb c_len G.f_len (by decide +kernel) (i_cons (i_var 20) i_nil)) (nomark _))
  (is_last (is_ret i_bl))
  is_nil)
  (is_last (is_asgR (igr_cons (ig_name 10 sc_law.nd) (igr_cons (ig_name 11 sc_law.nd) igr_nil)) (i_cons (i_dictK (i_frz (i_lockL (mVar 10) (i_lc (own := [(Str.ofString "time", 23)]) sc_law.nd (i_itDK (i_var 10)) (blkOk_by (by kernel_rfl)) (by decide) (fun _ _ _ _ _ => (ig_s (ig_name 23 sc_law.nd))) (fun _ _ _ _ _ => (i_ts1 (i_cmpT (o_notIn (hu_of hr)) (i_var 23) (i_var 20) (by rfl)))) (fun _ _ _ _ _ => (i_tup (i_cons (i_var 23) (i_cons (i_dget (hu_of hr) (i_var 10) (i_var 23)) i_nil))))))) G.f_dict) (i_cons (i_bin o_add (i_var 11) (i_bin o_mul i_int (i_cb c_len G.f_len (by decide +kernel) (i_cons (i_var 20) i_nil)))) i_nil))))))))
  (is_cons (is_par 23 24 sc_law.nd (i_cons (i_call1 ((fx__law_roll G).mono (by first | decide | omega)) hr tk (i_cons (i_var 1) (i_cons (i_var 9) i_nil)) (len_cons (len_cons len_nil))) (i_cons (i_bin o_sub (i_call1 ((fx__law_roll G).mono (by first | decide | omega)) hr tk (i_cons (i_var 1) (i_cons i_int i_nil)) (len_cons (len_cons len_nil))) i_int) i_nil)) (by rfl))
  (is_cons (is_expr (i_meth ((mx_View_write G).mono (by first | decide | omega)) hr tk (i_var 3) (i_cons (i_var 23) (i_cons (i_var 24) i_nil)) (len_cons (len_cons len_nil))))
  (is_last (is_asgR (igr_cons (ig_name 10 sc_law.nd) (igr_cons (ig_name 11 sc_law.nd) igr_nil)) (i_cons (i_dictK (i_frz (i_op2L o_addL (i_frz (i_listItems (i_var 10) G.f_list)) (i_frz (i_lst (i_cons (i_tup (i_cons (i_var 23) (i_cons (i_var 24) i_nil))) i_nil))))) G.f_dict) (i_cons (i_bin o_add (i_var 11) i_int) i_nil)))))))))
  (is_cons (is_set 5 sc_law.nd (i_ct c_tuple G.f_tuple (by decide +kernel) (i_cons (i_frz (i_sortItems (i_var 10) G.f_sorted (hu_of hr))) i_nil)))
  (is_cons (is_set 6 sc_law.nd (i_callP ((fx__law_pyramid G).mono (by first | decide | omega)) hr tk (i_cons (i_var 5) (i_cons (i_var 8) i_nil)) (len_cons (len_cons len_nil))))
  (is_cons (is_if (i_notT (i_tru (i_callP ((fx__law_same G 8).mono (by decide)) hr tk (i_cons (i_tup (i_cons (i_meth0 ((mx_View_all_cells G).mono (by first | decide | omega)) hr tk (i_var 3)) (i_cons (i_callP ((fx_cells_of G).mono (by first | decide | omega)) hr tk (i_cons (i_var 5) (i_cons (i_var 8) i_nil)) (len_cons (len_cons len_nil))) (i_cons (i_meth0 ((mx_View_work G).mono (by first | decide | omega)) hr tk (i_var 3)) i_nil)))) (i_cons (i_tup (i_cons (i_var 6) (i_cons (i_var 6) (i_cons (i_var 11) i_nil)))) i_nil)) (len_cons (len_cons len_nil)))))
  (is_last (is_ret i_bl))
  is_nil)
  (is_last (is_for hp (i_range1 G.f_range (i_cons i_int i_nil)) (ig_s (ig_name 7 sc_law.nd))
  (is_cons (is_set 12 sc_law.nd (i_call1 ((fx__law_roll G).mono (by first | decide | omega)) hr tk (i_cons (i_var 1) (i_cons (i_var 9) i_nil)) (len_cons (len_cons len_nil))))
  (is_cons (is_set 13 sc_law.nd (i_bin o_add (i_var 12) (i_call1 ((fx__law_roll G).mono (by first | decide | omega)) hr tk (i_cons (i_var 1) (i_cons (i_var 9) i_nil)) (len_cons (len_cons len_nil)))))
  (is_cons (is_set 14 sc_law.nd (i_bin o_add i_int (i_call1 ((fx__law_roll G).mono (by first | decide | omega)) hr tk (i_cons (i_var 1) (i_cons (i_cb (c_min rfl) G.f_min (by decide +kernel) (i_cons i_int (i_cons (i_bin o_add (i_bin o_sub (i_var 13) (i_var 12)) i_int) i_nil))) i_nil)) (len_cons (len_cons len_nil)))))
  (is_cons (is_set 15 sc_law.nd (i_callP ((fx__law_columns G).mono (by first | decide | omega)) hr tk (i_cons (i_var 12) (i_cons (i_var 13) (i_cons (i_var 14) i_nil))) (len_cons (len_cons (len_cons len_nil)))))
  (is_cons (is_set 16 sc_law.nd (i_ct c_tuple G.f_tuple (by decide +kernel) (i_cons (i_frz (i_lc (own := [(Str.ofString "low", 26), (Str.ofString "high", 27)]) sc_law.nd (i_itS (i_var 15)) (blkOk_by (by kernel_rfl)) (by decide) (fun _ _ _ _ _ => (ig_s (ig_tup (igs_cons (ig_name 26 sc_law.nd) (igs_cons (ig_name 27 sc_law.nd) igs_nil))))) (fun _ _ _ _ _ => i_ts0) (fun _ _ _ _ _ => (i_callP ((fx__law_cell G).mono (by first | decide | omega)) hr takes0 (i_cons (i_frz (i_lc (own := [(Str.ofString "time", 23), (Str.ofString "value", 24)]) sc_law.nd (i_itS (i_var 5)) (blkOk_by (by kernel_rfl)) (by decide) (fun _ _ _ _ _ => (ig_s (ig_tup (igs_cons (ig_name 23 sc_law.nd) (igs_cons (ig_name 24 sc_law.nd) igs_nil))))) (fun _ _ _ _ _ => (i_ts1 (i_chainT o_le o_le (i_var 26) (i_var 23) (i_var 27)))) (fun _ _ _ _ _ => (i_tup (i_cons (i_var 23) (i_cons (i_var 24) i_nil)))))) i_nil) (len_cons len_nil))))) i_nil)))
  (is_cons (is_if (i_notT (i_tru (i_callP ((fx__law_same G 8).mono (by decide)) hr tk (i_cons (i_tup (i_cons (i_callP ((fx_column_spans G).mono (by first | decide | omega)) hr tk (i_cons (i_var 12) (i_cons (i_var 13) (i_cons (i_var 14) i_nil))) (len_cons (len_cons (len_cons len_nil)))) (i_cons (i_meth ((mx_View_columns G).mono (by first | decide | omega)) hr tk (i_var 3) (i_cons (i_var 12) (i_cons (i_var 13) (i_cons (i_var 14) i_nil))) (len_cons (len_cons (len_cons len_nil)))) (i_cons (i_callP ((fx_columns_of G).mono (by first | decide | omega)) hr tk (i_cons (i_var 5) (i_cons (i_var 12) (i_cons (i_var 13) (i_cons (i_var 14) i_nil)))) (len_cons (len_cons (len_cons (len_cons len_nil))))) i_nil)))) (i_cons (i_tup (i_cons (i_ct c_tuple G.f_tuple (by decide +kernel) (i_cons (i_var 15) i_nil)) (i_cons (i_var 16) (i_cons (i_var 16) i_nil)))) i_nil)) (len_cons (len_cons len_nil)))))
  (is_last (is_ret i_bl))
  is_nil)
  (is_cons (is_asgR (igr_cons (ig_name 21 sc_law.nd) (igr_cons (ig_name 22 sc_law.nd) igr_nil)) (i_cons (i_bin o_div (i_bin o_sub (i_bin o_add (i_var 12) (i_var 8)) i_int) (i_var 8)) (i_cons (i_bin o_sub (i_bin o_div (i_bin o_add (i_var 13) i_int) (i_var 8)) i_int) i_nil)))
  (is_cons (is_set 17 sc_law.nd (i_ifE (i_cmpT o_le (i_var 21) (i_var 22) (nomark _)) (i_frz (i_lc (own := [(Str.ofString "key", 25)]) sc_law.nd (i_itS (i_callP ((fx_cover G).mono (by first | decide | omega)) hr tk (i_cons (i_var 21) (i_cons (i_var 22) i_nil)) (len_cons (len_cons len_nil)))) (blkOk_by (by kernel_rfl)) (by decide) (fun _ _ _ _ _ => (ig_s (ig_name 25 sc_law.nd))) (fun _ _ _ _ _ => (i_ts1 (i_dinT (hu_of hr) (i_var 25) (i_dictH (i_var 6) G.f_dict (hu_of hr))))) (fun _ _ _ _ _ => (i_var 25)))) (i_frz (i_lst i_nil))))
  (is_cons (is_setL (is_lcS (i := 18) (own := [(Str.ofString "time", 23), (Str.ofString "value", 24)]) sc_law.nd (i_itS (i_var 5)) (blkOk_by (by kernel_rfl)) (by decide) (fun _ _ _ _ _ => (ig_s (ig_tup (igs_cons (ig_name 23 sc_law.nd) (igs_cons (ig_name 24 sc_law.nd) igs_nil))))) (fun _ _ _ _ _ => (i_ts1 (i_bt (i_andT (i_chainT o_le o_le (i_var 12) (i_var 23) (i_var 13)) (i_and1 (i_bt (i_orT (i_cmpT o_gt (i_var 21) (i_var 22) (nomark _)) (i_or1 (i_notT (i_chainT o_le o_le (i_var 21) (i_bin o_div (i_var 23) (i_var 8)) (i_var 22))))))))))) (fun _ _ _ _ _ => i_int) (sw_true rfl rfl rfl rfl)))
  (is_cons (is_set 19 sc_law.nd (i_callP ((fx__law_cell G).mono (by first | decide | omega)) hr tk (i_cons (i_frz (i_lc (own := [(Str.ofString "time", 23), (Str.ofString "value", 24)]) sc_law.nd (i_itS (i_var 5)) (blkOk_by (by kernel_rfl)) (by decide) (fun _ _ _ _ _ => (ig_s (ig_tup (igs_cons (ig_name 23 sc_law.nd) (igs_cons (ig_name 24 sc_law.nd) igs_nil))))) (fun _ _ _ _ _ => (i_ts1 (i_chainT o_le o_le (i_var 12) (i_var 23) (i_var 13)))) (fun _ _ _ _ _ => (i_tup (i_cons (i_var 23) (i_cons (i_var 24) i_nil)))))) i_nil) (len_cons len_nil)))
  (is_last (is_if (i_notT (i_tru (i_callP ((fx__law_same G 8).mono (by decide)) hr tk (i_cons (i_meth ((mx_View_span G).mono (by first | decide | omega)) hr tk (i_var 3) (i_cons (i_var 12) (i_cons (i_var 13) i_nil)) (len_cons (len_cons len_nil))) (i_cons (i_tup (i_cons (i_var 19) (i_cons (i_bin o_add (i_cb c_len G.f_len (by decide +kernel) (i_cons (i_var 17) i_nil)) (i_cb c_len G.f_len (by decide +kernel) (i_cons (i_var 18) i_nil))) i_nil))) i_nil)) (len_cons (len_cons len_nil)))))
  (is_last (is_ret i_bl))
  is_nil)))))))))))))))))))))
  (is_cons (is_set 3 sc_law.nd (i_make ((mk_View G).mono (by first | decide | omega)) hr tk (i_cons (i_bin o_add i_int (i_call1 ((fx__law_roll G).mono (by first | decide | omega)) hr tk (i_cons (i_var 1) (i_cons (i_bin o_pow i_int i_int) i_nil)) (len_cons (len_cons len_nil)))) i_nil) (len_cons len_nil)))
  (is_cons (is_expr (i_meth ((mx_View_write G).mono (by first | decide | omega)) hr tk (i_var 3) (i_cons (i_bin o_pow i_int i_int) (i_cons i_int i_nil)) (len_cons (len_cons len_nil))))
  (is_cons (is_expr (i_meth ((mx_View_write G).mono (by first | decide | omega)) hr tk (i_var 3) (i_cons i_int (i_cons i_int i_nil)) (len_cons (len_cons len_nil))))
  (is_last (is_ret (i_callP ((fx__law_same G 8).mono (by decide)) hr tk (i_cons (i_tup (i_cons (i_ix o_ix (i_meth ((mx_View_span G).mono (by first | decide | omega)) hr tk (i_var 3) (i_cons i_int (i_cons (i_bin o_pow i_int i_int) i_nil)) (len_cons (len_cons len_nil))) i_int) (i_cons (i_meth ((mx_View_columns G).mono (by first | decide | omega)) hr tk (i_var 3) (i_cons i_int (i_cons (i_bin o_pow i_int i_int) (i_cons i_int i_nil))) (len_cons (len_cons (len_cons len_nil)))) i_nil))) (i_cons (i_tup (i_cons (i_tup (i_cons i_int (i_cons (i_tup (i_cons i_int (i_cons i_int i_nil))) (i_cons (i_tup (i_cons (i_bin o_pow i_int i_int) (i_cons i_int i_nil))) (i_cons i_int (i_cons i_int (i_cons i_int i_nil))))))) (i_cons (i_tup (i_cons (i_tup (i_cons i_int (i_cons (i_tup (i_cons i_int (i_cons i_int i_nil))) (i_cons (i_tup (i_cons i_int (i_cons i_int i_nil))) (i_cons i_int (i_cons i_int (i_cons i_int i_nil))))))) (i_cons (i_tup (i_cons i_int (i_cons (i_tup (i_cons (i_bin o_pow i_int i_int) (i_cons i_int i_nil))) (i_cons (i_tup (i_cons (i_bin o_pow i_int i_int) (i_cons i_int i_nil))) (i_cons i_int (i_cons i_int (i_cons i_int i_nil))))))) i_nil))) i_nil))) i_nil)) (len_cons (len_cons len_nil))))))))))
end
/-! the head -/
def dd_is_whole : He.DefD := ⟨("is_whole", none), "is_whole", "is_whole", defArgs (top 8), defBody (top 8), defScope (top 8), [], []⟩
def dd_is_tuple_of : He.DefD := ⟨("is_tuple_of", none), "is_tuple_of", "is_tuple_of", defArgs (top 9), defBody (top 9), defScope (top 9), [], []⟩
def dd_is_rising : He.DefD := ⟨("is_rising", none), "is_rising", "is_rising", defArgs (top 10), defBody (top 10), defScope (top 10), [], []⟩
def dd_fits_time : He.DefD := ⟨("fits_time", none), "fits_time", "fits_time", defArgs (top 11), defBody (top 11), defScope (top 11), [], []⟩
def dd_need_span : He.DefD := ⟨("need_span", none), "need_span", "need_span", defArgs (top 12), defBody (top 12), defScope (top 12), [], []⟩
def dd_fits_long : He.DefD := ⟨("fits_long", none), "fits_long", "fits_long", defArgs (top 15), defBody (top 15), defScope (top 15), [], []⟩
def dd_cell_of : He.DefD := ⟨("cell_of", none), "cell_of", "cell_of", defArgs (top 20), defBody (top 20), defScope (top 20), [], []⟩
def dd_joined : He.DefD := ⟨("joined", none), "joined", "joined", defArgs (top 21), defBody (top 21), defScope (top 21), [], []⟩
def dd_joined_all : He.DefD := ⟨("joined_all", none), "joined_all", "joined_all", defArgs (top 22), defBody (top 22), defScope (top 22), [], []⟩
def dd_fits_point : He.DefD := ⟨("fits_point", none), "fits_point", "fits_point", defArgs (top 23), defBody (top 23), defScope (top 23), [], []⟩
def dd_spans_of : He.DefD := ⟨("spans_of", none), "spans_of", "spans_of", defArgs (top 24), defBody (top 24), defScope (top 24), [], []⟩
def dd_points_in : He.DefD := ⟨("points_in", none), "points_in", "points_in", defArgs (top 25), defBody (top 25), defScope (top 25), [], []⟩
def dd_pyramid_in : He.DefD := ⟨("pyramid_in", none), "pyramid_in", "pyramid_in", defArgs (top 26), defBody (top 26), defScope (top 26), [], []⟩
def dd_power : He.DefD := ⟨("power", none), "power", "power", defArgs (top 28), defBody (top 28), defScope (top 28), [], []⟩
def dd_cover_in : He.DefD := ⟨("cover_in", none), "cover_in", "cover_in", defArgs (top 27), defBody (top 27), defScope (top 27), [], []⟩
def dd_need_base : He.DefD := ⟨("need_base", none), "need_base", "need_base", defArgs (top 30), defBody (top 30), defScope (top 30), [], []⟩
def dd_need_columns : He.DefD := ⟨("need_columns", none), "need_columns", "need_columns", defArgs (top 31), defBody (top 31), defScope (top 31), [], []⟩
def dd_need_points : He.DefD := ⟨("need_points", none), "need_points", "need_points", defArgs (top 32), defBody (top 32), defScope (top 32), [], []⟩
def dd_columns_of : He.DefD := ⟨("columns_of", none), "columns_of", "columns_of", defArgs (top 33), defBody (top 33), defScope (top 33), [], []⟩
def dd_column_spans : He.DefD := ⟨("column_spans", none), "column_spans", "column_spans", defArgs (top 34), defBody (top 34), defScope (top 34), [], []⟩
def dd_cells_of : He.DefD := ⟨("cells_of", none), "cells_of", "cells_of", defArgs (top 35), defBody (top 35), defScope (top 35), [], []⟩
def dd_cover : He.DefD := ⟨("cover", none), "cover", "cover", defArgs (top 36), defBody (top 36), defScope (top 36), [], []⟩
def dd__law_cup : He.DefD := ⟨("_law_cup", none), "_law_cup", "_law_cup", defArgs (top 38), defBody (top 38), defScope (top 38), [], []⟩
def dd__law_roll : He.DefD := ⟨("_law_roll", none), "_law_roll", "_law_roll", defArgs (top 39), defBody (top 39), defScope (top 39), [], []⟩
def dd__law_some : He.DefD := ⟨("_law_some", none), "_law_some", "_law_some", defArgs (top 40), defBody (top 40), defScope (top 40), [], []⟩
def dd__law_same : He.DefD := ⟨("_law_same", none), "_law_same", "_law_same", defArgs (top 41), defBody (top 41), defScope (top 41), [], []⟩
def dd__law_cell : He.DefD := ⟨("_law_cell", none), "_law_cell", "_law_cell", defArgs (top 42), defBody (top 42), defScope (top 42), [], []⟩
def dd__law_pyramid : He.DefD := ⟨("_law_pyramid", none), "_law_pyramid", "_law_pyramid", defArgs (top 43), defBody (top 43), defScope (top 43), [], []⟩
def dd__law_columns : He.DefD := ⟨("_law_columns", none), "_law_columns", "_law_columns", defArgs (top 44), defBody (top 44), defScope (top 44), [], []⟩
def dd_View___init__ : He.DefD := ⟨("View", some "__init__"), "__init__", "View.__init__", defArgs (inClass (top 29) 0), defBody (inClass (top 29) 0), defScope (inClass (top 29) 0), [], []⟩
def dd_View_put : He.DefD := ⟨("View", some "put"), "put", "View.put", defArgs (inClass (top 29) 4), defBody (inClass (top 29) 4), defScope (inClass (top 29) 4), [], []⟩
def dd_View_renew : He.DefD := ⟨("View", some "renew"), "renew", "View.renew", defArgs (inClass (top 29) 3), defBody (inClass (top 29) 3), defScope (inClass (top 29) 3), [], []⟩
def dd_View_write : He.DefD := ⟨("View", some "write"), "write", "View.write", defArgs (inClass (top 29) 1), defBody (inClass (top 29) 1), defScope (inClass (top 29) 1), [], []⟩
def dd_View_delete : He.DefD := ⟨("View", some "delete"), "delete", "View.delete", defArgs (inClass (top 29) 2), defBody (inClass (top 29) 2), defScope (inClass (top 29) 2), [], []⟩
def dd_View_all_cells : He.DefD := ⟨("View", some "all_cells"), "all_cells", "View.all_cells", defArgs (inClass (top 29) 5), defBody (inClass (top 29) 5), defScope (inClass (top 29) 5), [], []⟩
def dd_View_span : He.DefD := ⟨("View", some "span"), "span", "View.span", defArgs (inClass (top 29) 6), defBody (inClass (top 29) 6), defScope (inClass (top 29) 6), [], []⟩
def dd_View_columns : He.DefD := ⟨("View", some "columns"), "columns", "View.columns", defArgs (inClass (top 29) 7), defBody (inClass (top 29) 7), defScope (inClass (top 29) 7), [], []⟩
def dd_View_work : He.DefD := ⟨("View", some "work"), "work", "View.work", defArgs (inClass (top 29) 8), defBody (inClass (top 29) 8), defScope (inClass (top 29) 8), [], []⟩
def dd_law : He.DefD := ⟨("law", none), "law", "law", defArgs (top 45), defBody (top 45), defScope (top 45), [], []⟩
def fnl : List He.DefD := [dd_is_whole, dd_is_tuple_of, dd_is_rising, dd_fits_time, dd_need_span, dd_fits_long, dd_cell_of, dd_joined, dd_joined_all, dd_fits_point, dd_spans_of, dd_points_in, dd_pyramid_in, dd_power, dd_cover_in, dd_need_base, dd_need_columns, dd_need_points, dd_columns_of, dd_column_spans, dd_cells_of, dd_cover, dd__law_cup, dd__law_roll, dd__law_some, dd__law_same, dd__law_cell, dd__law_pyramid, dd__law_columns, dd_View___init__, dd_View_put, dd_View_renew, dd_View_write, dd_View_delete, dd_View_all_cells, dd_View_span, dd_View_columns, dd_View_work, dd_law]
def fa : List He.Fa := [.glo "is_whole", .glo "is_tuple_of", .glo "is_rising", .glo "fits_time", .glo "need_span", .glo "fits_long", .glo "cell_of", .glo "joined", .glo "joined_all", .glo "fits_point", .glo "spans_of", .glo "points_in", .glo "pyramid_in", .glo "power", .glo "cover_in", .glo "need_base", .glo "need_columns", .glo "need_points", .glo "columns_of", .glo "column_spans", .glo "cells_of", .glo "cover", .glo "_law_cup", .glo "_law_roll", .glo "_law_some", .glo "_law_same", .glo "_law_cell", .glo "_law_pyramid", .glo "_law_columns", .mkr "View", .meth "View" "put", .meth "View" "renew", .meth "View" "write", .meth "View" "delete", .meth "View" "all_cells", .meth "View" "span", .meth "View" "columns", .meth "View" "work", .glo "law", .free "abs", .free "all", .free "bool", .free "dict", .free "divmod", .free "int", .free "isinstance", .free "len", .free "list", .free "max", .free "min", .free "range", .free "set", .free "sorted", .free "str", .free "sum", .free "tuple", .free "zip", .int "TIME" 1000000000000000, .int "VALUE" 1000000000000, .int "MANY" 4096, .int "LEVELS" 51, .int "COLUMNS" 256, .int "CELLS" 4096, .glo "SeriesError", .exc "SeriesError", .glo "InvalidSamples", .exc "InvalidSamples", .glo "InvalidNumber", .exc "InvalidNumber", .glo "View", .cls "View", .noat "View" "base", .noat "View" "points", .noat "View" "cells", .noat "View" "made"]
def loose : List Str := (["__name__", "SeriesError", "InvalidSamples", "InvalidNumber", "TooMany", "TIME", "VALUE", "is_whole", "is_tuple_of", "is_rising", "fits_time", "need_span", "MANY", "fits_long", "LEVELS", "COLUMNS", "CELLS", "cell_of", "joined", "joined_all", "fits_point", "spans_of", "points_in", "pyramid_in", "cover_in", "power", "View", "need_base", "need_columns", "need_points"] : List Str) ++ (["columns_of", "column_spans", "cells_of", "cover", "_law_cup", "_law_roll", "_law_some", "_law_same", "_law_cell", "_law_pyramid", "_law_columns"] : List Str)
abbrev RowR : PySem.W.OpenRow := PySem.W.OpenLaw.row PySem.Challenge.rw_serieskept_k94_whole_views_and_their_col
abbrev hk : PySem.W.Hook := He.hookD 5 fa fnl
def ob (s : PySem.W.SharedT) : He.AlD := He.obsDG 5 fa fnl (HandSHeadRun.getT s)
theorem ob_eq (s : PySem.W.SharedT) : ob s = hk.obs s.abs := He.obsDG_eq (HandSHeadRun.getT_eq s)
theorem run (w : World) : HandSHeadRun.RunEq RowR (PySem.W.view RowR.prog [45]) hk ob 8000 loose w := by
  intro os
  kernel_rfl
theorem gs {P : Program} {w : World} {K : PySem.W.Frag} {h base : Heap} {mg : Str → Option Value} (X : K.In h) (Gn : h.Ns mainGlobals mg) (c : He.SaysD fa fnl K) : Gs P w K mg base where
  d_is_whole := by
    obtain ⟨fd, F⟩ := c.def_ 0 (d := dd_is_whole) rfl
    exact ⟨_, fd, F, He.glo_ok X Gn (c.fact 0 (f := .glo "is_whole") rfl)⟩
  d_is_tuple_of := by
    obtain ⟨fd, F⟩ := c.def_ 1 (d := dd_is_tuple_of) rfl
    exact ⟨_, fd, F, He.glo_ok X Gn (c.fact 1 (f := .glo "is_tuple_of") rfl)⟩
  d_is_rising := by
    obtain ⟨fd, F⟩ := c.def_ 2 (d := dd_is_rising) rfl
    exact ⟨_, fd, F, He.glo_ok X Gn (c.fact 2 (f := .glo "is_rising") rfl)⟩
  d_fits_time := by
    obtain ⟨fd, F⟩ := c.def_ 3 (d := dd_fits_time) rfl
    exact ⟨_, fd, F, He.glo_ok X Gn (c.fact 3 (f := .glo "fits_time") rfl)⟩
  d_need_span := by
    obtain ⟨fd, F⟩ := c.def_ 4 (d := dd_need_span) rfl
    exact ⟨_, fd, F, He.glo_ok X Gn (c.fact 4 (f := .glo "need_span") rfl)⟩
  d_fits_long := by
    obtain ⟨fd, F⟩ := c.def_ 5 (d := dd_fits_long) rfl
    exact ⟨_, fd, F, He.glo_ok X Gn (c.fact 5 (f := .glo "fits_long") rfl)⟩
  d_cell_of := by
    obtain ⟨fd, F⟩ := c.def_ 6 (d := dd_cell_of) rfl
    exact ⟨_, fd, F, He.glo_ok X Gn (c.fact 6 (f := .glo "cell_of") rfl)⟩
  d_joined := by
    obtain ⟨fd, F⟩ := c.def_ 7 (d := dd_joined) rfl
    exact ⟨_, fd, F, He.glo_ok X Gn (c.fact 7 (f := .glo "joined") rfl)⟩
  d_joined_all := by
    obtain ⟨fd, F⟩ := c.def_ 8 (d := dd_joined_all) rfl
    exact ⟨_, fd, F, He.glo_ok X Gn (c.fact 8 (f := .glo "joined_all") rfl)⟩
  d_fits_point := by
    obtain ⟨fd, F⟩ := c.def_ 9 (d := dd_fits_point) rfl
    exact ⟨_, fd, F, He.glo_ok X Gn (c.fact 9 (f := .glo "fits_point") rfl)⟩
  d_spans_of := by
    obtain ⟨fd, F⟩ := c.def_ 10 (d := dd_spans_of) rfl
    exact ⟨_, fd, F, He.glo_ok X Gn (c.fact 10 (f := .glo "spans_of") rfl)⟩
  d_points_in := by
    obtain ⟨fd, F⟩ := c.def_ 11 (d := dd_points_in) rfl
    exact ⟨_, fd, F, He.glo_ok X Gn (c.fact 11 (f := .glo "points_in") rfl)⟩
  d_pyramid_in := by
    obtain ⟨fd, F⟩ := c.def_ 12 (d := dd_pyramid_in) rfl
    exact ⟨_, fd, F, He.glo_ok X Gn (c.fact 12 (f := .glo "pyramid_in") rfl)⟩
  d_power := by
    obtain ⟨fd, F⟩ := c.def_ 13 (d := dd_power) rfl
    exact ⟨_, fd, F, He.glo_ok X Gn (c.fact 13 (f := .glo "power") rfl)⟩
  d_cover_in := by
    obtain ⟨fd, F⟩ := c.def_ 14 (d := dd_cover_in) rfl
    exact ⟨_, fd, F, He.glo_ok X Gn (c.fact 14 (f := .glo "cover_in") rfl)⟩
  d_need_base := by
    obtain ⟨fd, F⟩ := c.def_ 15 (d := dd_need_base) rfl
    exact ⟨_, fd, F, He.glo_ok X Gn (c.fact 15 (f := .glo "need_base") rfl)⟩
  d_need_columns := by
    obtain ⟨fd, F⟩ := c.def_ 16 (d := dd_need_columns) rfl
    exact ⟨_, fd, F, He.glo_ok X Gn (c.fact 16 (f := .glo "need_columns") rfl)⟩
  d_need_points := by
    obtain ⟨fd, F⟩ := c.def_ 17 (d := dd_need_points) rfl
    exact ⟨_, fd, F, He.glo_ok X Gn (c.fact 17 (f := .glo "need_points") rfl)⟩
  d_columns_of := by
    obtain ⟨fd, F⟩ := c.def_ 18 (d := dd_columns_of) rfl
    exact ⟨_, fd, F, He.glo_ok X Gn (c.fact 18 (f := .glo "columns_of") rfl)⟩
  d_column_spans := by
    obtain ⟨fd, F⟩ := c.def_ 19 (d := dd_column_spans) rfl
    exact ⟨_, fd, F, He.glo_ok X Gn (c.fact 19 (f := .glo "column_spans") rfl)⟩
  d_cells_of := by
    obtain ⟨fd, F⟩ := c.def_ 20 (d := dd_cells_of) rfl
    exact ⟨_, fd, F, He.glo_ok X Gn (c.fact 20 (f := .glo "cells_of") rfl)⟩
  d_cover := by
    obtain ⟨fd, F⟩ := c.def_ 21 (d := dd_cover) rfl
    exact ⟨_, fd, F, He.glo_ok X Gn (c.fact 21 (f := .glo "cover") rfl)⟩
  d__law_cup := by
    obtain ⟨fd, F⟩ := c.def_ 22 (d := dd__law_cup) rfl
    exact ⟨_, fd, F, He.glo_ok X Gn (c.fact 22 (f := .glo "_law_cup") rfl)⟩
  d__law_roll := by
    obtain ⟨fd, F⟩ := c.def_ 23 (d := dd__law_roll) rfl
    exact ⟨_, fd, F, He.glo_ok X Gn (c.fact 23 (f := .glo "_law_roll") rfl)⟩
  d__law_some := by
    obtain ⟨fd, F⟩ := c.def_ 24 (d := dd__law_some) rfl
    exact ⟨_, fd, F, He.glo_ok X Gn (c.fact 24 (f := .glo "_law_some") rfl)⟩
  d__law_same := by
    obtain ⟨fd, F⟩ := c.def_ 25 (d := dd__law_same) rfl
    exact ⟨_, fd, F, He.glo_ok X Gn (c.fact 25 (f := .glo "_law_same") rfl)⟩
  d__law_cell := by
    obtain ⟨fd, F⟩ := c.def_ 26 (d := dd__law_cell) rfl
    exact ⟨_, fd, F, He.glo_ok X Gn (c.fact 26 (f := .glo "_law_cell") rfl)⟩
  d__law_pyramid := by
    obtain ⟨fd, F⟩ := c.def_ 27 (d := dd__law_pyramid) rfl
    exact ⟨_, fd, F, He.glo_ok X Gn (c.fact 27 (f := .glo "_law_pyramid") rfl)⟩
  d__law_columns := by
    obtain ⟨fd, F⟩ := c.def_ 28 (d := dd__law_columns) rfl
    exact ⟨_, fd, F, He.glo_ok X Gn (c.fact 28 (f := .glo "_law_columns") rfl)⟩
  d_View___init__ := by
    obtain ⟨fd, F⟩ := c.def_ 29 (d := dd_View___init__) rfl
    exact ⟨_, fd, F, He.mkr_ok (c.fact 29 (f := .mkr "View") rfl), He.glo_ok X Gn (c.fact 69 (f := .glo "View") rfl)⟩
  d_View_put := by
    obtain ⟨fd, F⟩ := c.def_ 30 (d := dd_View_put) rfl
    exact ⟨_, fd, F, He.meth_ok (c.fact 30 (f := .meth "View" "put") rfl)⟩
  d_View_renew := by
    obtain ⟨fd, F⟩ := c.def_ 31 (d := dd_View_renew) rfl
    exact ⟨_, fd, F, He.meth_ok (c.fact 31 (f := .meth "View" "renew") rfl)⟩
  d_View_write := by
    obtain ⟨fd, F⟩ := c.def_ 32 (d := dd_View_write) rfl
    exact ⟨_, fd, F, He.meth_ok (c.fact 32 (f := .meth "View" "write") rfl)⟩
  d_View_delete := by
    obtain ⟨fd, F⟩ := c.def_ 33 (d := dd_View_delete) rfl
    exact ⟨_, fd, F, He.meth_ok (c.fact 33 (f := .meth "View" "delete") rfl)⟩
  d_View_all_cells := by
    obtain ⟨fd, F⟩ := c.def_ 34 (d := dd_View_all_cells) rfl
    exact ⟨_, fd, F, He.meth_ok (c.fact 34 (f := .meth "View" "all_cells") rfl)⟩
  d_View_span := by
    obtain ⟨fd, F⟩ := c.def_ 35 (d := dd_View_span) rfl
    exact ⟨_, fd, F, He.meth_ok (c.fact 35 (f := .meth "View" "span") rfl)⟩
  d_View_columns := by
    obtain ⟨fd, F⟩ := c.def_ 36 (d := dd_View_columns) rfl
    exact ⟨_, fd, F, He.meth_ok (c.fact 36 (f := .meth "View" "columns") rfl)⟩
  d_View_work := by
    obtain ⟨fd, F⟩ := c.def_ 37 (d := dd_View_work) rfl
    exact ⟨_, fd, F, He.meth_ok (c.fact 37 (f := .meth "View" "work") rfl)⟩
  d_law := by
    obtain ⟨fd, F⟩ := c.def_ 38 (d := dd_law) rfl
    exact ⟨_, fd, F, He.glo_ok X Gn (c.fact 38 (f := .glo "law") rfl)⟩
  c_View := He.cls_ok (c.fact 70 (f := .cls "View") rfl)
  n_View_base := He.noat_ok (c.fact 71 (f := .noat "View" "base") rfl)
  n_View_points := He.noat_ok (c.fact 72 (f := .noat "View" "points") rfl)
  n_View_cells := He.noat_ok (c.fact 73 (f := .noat "View" "cells") rfl)
  n_View_made := He.noat_ok (c.fact 74 (f := .noat "View" "made") rfl)
  f_abs := He.free_ok X Gn (c.fact 39 (f := .free "abs") rfl)
  f_all := He.free_ok X Gn (c.fact 40 (f := .free "all") rfl)
  f_bool := He.free_ok X Gn (c.fact 41 (f := .free "bool") rfl)
  f_dict := He.free_ok X Gn (c.fact 42 (f := .free "dict") rfl)
  f_divmod := He.free_ok X Gn (c.fact 43 (f := .free "divmod") rfl)
  f_int := He.free_ok X Gn (c.fact 44 (f := .free "int") rfl)
  f_isinstance := He.free_ok X Gn (c.fact 45 (f := .free "isinstance") rfl)
  f_len := He.free_ok X Gn (c.fact 46 (f := .free "len") rfl)
  f_list := He.free_ok X Gn (c.fact 47 (f := .free "list") rfl)
  f_max := He.free_ok X Gn (c.fact 48 (f := .free "max") rfl)
  f_min := He.free_ok X Gn (c.fact 49 (f := .free "min") rfl)
  f_range := He.free_ok X Gn (c.fact 50 (f := .free "range") rfl)
  f_set := He.free_ok X Gn (c.fact 51 (f := .free "set") rfl)
  f_sorted := He.free_ok X Gn (c.fact 52 (f := .free "sorted") rfl)
  f_str := He.free_ok X Gn (c.fact 53 (f := .free "str") rfl)
  f_sum := He.free_ok X Gn (c.fact 54 (f := .free "sum") rfl)
  f_tuple := He.free_ok X Gn (c.fact 55 (f := .free "tuple") rfl)
  f_zip := He.free_ok X Gn (c.fact 56 (f := .free "zip") rfl)
  i_TIME := He.int_ok X Gn (c.fact 57 (f := .int "TIME" 1000000000000000) rfl)
  i_VALUE := He.int_ok X Gn (c.fact 58 (f := .int "VALUE" 1000000000000) rfl)
  i_MANY := He.int_ok X Gn (c.fact 59 (f := .int "MANY" 4096) rfl)
  i_LEVELS := He.int_ok X Gn (c.fact 60 (f := .int "LEVELS" 51) rfl)
  i_COLUMNS := He.int_ok X Gn (c.fact 61 (f := .int "COLUMNS" 256) rfl)
  i_CELLS := He.int_ok X Gn (c.fact 62 (f := .int "CELLS" 4096) rfl)
  e_SeriesError := by
    obtain ⟨h1, h2, h3, h4⟩ := He.exc_ok (c.fact 64 (f := .exc "SeriesError") rfl)
    exact ⟨_, He.glo_ok X Gn (c.fact 63 (f := .glo "SeriesError") rfl), h1, h2, h3, h4⟩
  e_InvalidSamples := by
    obtain ⟨h1, h2, h3, h4⟩ := He.exc_ok (c.fact 66 (f := .exc "InvalidSamples") rfl)
    exact ⟨_, He.glo_ok X Gn (c.fact 65 (f := .glo "InvalidSamples") rfl), h1, h2, h3, h4⟩
  e_InvalidNumber := by
    obtain ⟨h1, h2, h3, h4⟩ := He.exc_ok (c.fact 68 (f := .exc "InvalidNumber") rfl)
    exact ⟨_, He.glo_ok X Gn (c.fact 67 (f := .glo "InvalidNumber") rfl), h1, h2, h3, h4⟩
end G94
open PySem PySem.W PySem.Calls PyProof.Rows in
theorem G94.holds_of (hlaw : ∀ ns : List Int, ns.length ≤ 63 → ∃ S, G94.m_law [.d (.list (ns.map .int))] [] = .ok (.d (.bool true)) S) : PySem.Challenge.rw_serieskept_k94_whole_views_and_their_col.Holds := by
  w_on; o_law
  refine HandSHeadRun.head_any (r := OpenLaw.row PySem.Challenge.rw_serieskept_k94_whole_views_and_their_col) (q := view (OpenLaw.row PySem.Challenge.rw_serieskept_k94_whole_views_and_their_col).prog [45]) (H := G94.hk) (ob := G94.ob) (M := 8000) (loose := G94.loose) (d := HandSHeadRun.topDef (OpenLaw.row PySem.Challenge.rw_serieskept_k94_whole_views_and_their_col).prog 45) (kwd := []) G94.ob_eq
    (by kernel_rfl) (fun s => by kernel_rfl) G94.run (by kernel_rfl) (by kernel_rfl) (by kernel_rfl) (by rfl) (by first | assumption | decide +kernel) (by decide +kernel) ⟨rfl, rfl, rfl, rfl, rfl, by decide +kernel⟩ ?hw ?hc
  case hw => w_witness2
  case hc =>
    refine Pi.walk_ofW (l := PySem.Challenge.rw_serieskept_k94_whole_views_and_their_col) (n := 63) (k := 10) (x := "script") rfl (by decide) (by kernel_rfl) ⟨rfl, by decide, by decide⟩ ?F
    intro w mg fa h Y Gn hmg0
    obtain ⟨K, KX, c⟩ := Y
    have hmg : mg ("law" : PySem.Str) = some (.ref fa) := by
      have e : (HandSHeadRun.topDef (OpenLaw.row PySem.Challenge.rw_serieskept_k94_whole_views_and_their_col).prog 45).name = ("law" : PySem.Str) := by kernel_rfl
      rw [← e]
      exact hmg0
    obtain ⟨fd, F⟩ := c.def_ 38 (d := G94.dd_law) rfl
    have e := hmg.symm.trans (He.glo_ok KX Gn (c.fact 38 (f := .glo "law") rfl))
    cases e
    have b := L2.FunD.bindsA (ps := ["script"]) F fun _ _ _ _ _ _ us hl => match us, hl with | [_], _ => rfl
    refine ⟨K, fd, Pi.spF w K mg 1 G94.m_law, KX, fun s v => b s [v] rfl, fun H a ns hl hO hS => ?_, fun base hK hN => ?_⟩
    · obtain ⟨S, hS2⟩ := hlaw ns hl
      exact Pi.sp_law hO hS hS2
    · exact G94.ok_law (G94.gs (P := (PySem.Challenge.rw_serieskept_k94_whole_views_and_their_col).prog) (w := w) (base := base) KX Gn c) F

namespace G94
open PySem PySem.Spec PyProof.Rows L2 Pi
/-! named pieces -/
def i_need_span_1 : SM := (mIf (mOrT (mNotT (mTruth (mCallP m_fits_time (mCons (mVar 0) mNil)))) (mNotT (mTruth (mCallP m_is_whole (mCons (mVar 1) (mCons (mVar 0) (mCons (mD (.int 1000000000000000)) mNil)))))))
  (mRaise "InvalidNumber")
  mSkip)
theorem m_need_span_eq : m_need_span = fnR 2 (i_need_span_1) := rfl
def i_fits_long_2 : SM := (mIf (mOrT (mNotT (mTruth (mCallP m_is_tuple_of (mCons (mVar 0) (mCons (mD (.int 1)) (mCons (mD (.int 4096)) mNil)))))) (mNotT (mTruth (mCB allD1 (mCons (mFrz (mLc (mItS (mVar 0)) [3] (gN 3) mYes (mCallP m_is_tuple_of (mCons (mVar 3) (mCons (mD (.int 2)) (mCons (mD (.int 2)) mNil)))))) mNil)))))
  (mRet (mD (.bool false)))
  mSkip)
def i_fits_long_1 : SM := (mIf (mNotT (mTruth (mCB allD1 (mCons (mFrz (mLc (mItS (mVar 0)) [1, 2] (gT [(gN 1), (gN 2)]) mYes (mAndV (mCallP m_fits_time (mCons (mVar 1) mNil)) (mCallP m_is_whole (mCons (mVar 2) (mCons (mOp1 negD (mD (.int 1000000000000))) (mCons (mD (.int 1000000000000)) mNil))))))) mNil))))
  (mRet (mD (.bool false)))
  mSkip)
theorem m_fits_long_eq : m_fits_long = fnR 4 ((mSeq i_fits_long_2
  (mSeq i_fits_long_1
  (mRet (mCallP m_is_rising (mCons (mFrz (mLc (mItS (mVar 0)) [1, 2] (gT [(gN 1), (gN 2)]) mYes (mVar 1))) mNil)))))) := rfl
def i_cell_of_1 : SM := (mIf (mB (mOp2 eqD (mVar 0) (mTup mNil)))
  (mRet (mD .none))
  mSkip)
theorem m_cell_of_eq : m_cell_of = fnR 4 ((mSeq i_cell_of_1
  (mSeq (mSetL 1 (mLc (mItS (mVar 0)) [2, 3] (gT [(gN 2), (gN 3)]) mYes (mVar 3)))
  (mRet (mTup (mCons (mCB lenD (mCons (mVar 0) mNil)) (mCons (mOp2 ixD (mVar 0) (mD (.int 0))) (mCons (mOp2 ixD (mVar 0) (mOp1 negD (mD (.int 1)))) (mCons (mCB minD (mCons (mVar 1) mNil)) (mCons (mCB maxD (mCons (mVar 1) mNil)) (mCons (mCB sumD (mCons (mVar 1) mNil)) mNil))))))))))) := rfl
def i_joined_1 : SM := (mIf (mOrT (mB (mOp2 isND (mVar 0) (mD .none))) (mB (mOp2 isND (mVar 1) (mD .none))))
  (mRet (mIfE (mB (mOp2 isND (mVar 0) (mD .none))) (mVar 1) (mVar 0)))
  mSkip)
theorem m_joined_eq : m_joined = fnR 4 ((mSeq i_joined_1
  (mSeq (mPar [2, 3] (mCons (mCB minD (mCons (mOp2 ixD (mVar 0) (mD (.int 3))) (mCons (mOp2 ixD (mVar 1) (mD (.int 3))) mNil))) (mCons (mCB maxD (mCons (mOp2 ixD (mVar 0) (mD (.int 4))) (mCons (mOp2 ixD (mVar 1) (mD (.int 4))) mNil))) mNil)))
  (mRet (mTup (mCons (mOp2 addD (mOp2 ixD (mVar 0) (mD (.int 0))) (mOp2 ixD (mVar 1) (mD (.int 0)))) (mCons (mOp2 ixD (mVar 0) (mD (.int 1))) (mCons (mOp2 ixD (mVar 1) (mD (.int 2))) (mCons (mVar 2) (mCons (mVar 3) (mCons (mOp2 addD (mOp2 ixD (mVar 0) (mD (.int 5))) (mOp2 ixD (mVar 1) (mD (.int 5)))) mNil))))))))))) := rfl
def b_joined_all_1 : SM := (mAsg (gN 1) (mCallP m_joined (mCons (mVar 1) (mCons (mVar 2) mNil))))
def f_joined_all_1 : SM := (mFor (mItS (mVar 0)) (gN 2)
  b_joined_all_1)
theorem m_joined_all_eq : m_joined_all = fnR 3 ((mSeq (mAsg (gN 1) (mD .none))
  (mSeq f_joined_all_1
  (mRet (mVar 1))))) := rfl
def b_spans_of_1 : SM := (mSeq (mAsg (gN 8) (mOp2 addD (mVar 4) (mCB intD (mCons (mOp2 ltD (mVar 3) (mVar 5)) mNil))))
  (mSeq (mExpr (mApp (mVar 6) (mTup (mCons (mVar 7) (mCons (mOp2 subD (mOp2 addD (mVar 7) (mVar 8)) (mD (.int 1))) mNil)))))
  (mAsg (gN 7) (mOp2 addD (mVar 7) (mVar 8)))))
def f_spans_of_1 : SM := (mFor (mItA range1 (mCons (mVar 2) mNil)) (gN 3)
  b_spans_of_1)
theorem m_spans_of_eq : m_spans_of = fnR 9 ((mSeq (mAsg (gT [(gN 4), (gN 5)]) (mCB divmodD (mCons (mOp2 addD (mOp2 subD (mVar 1) (mVar 0)) (mD (.int 1))) (mCons (mVar 2) mNil))))
  (mSeq (mPar [6, 7] (mCons (mNew (mDisp mNil)) (mCons (mVar 0) mNil)))
  (mSeq f_spans_of_1
  (mRet (mFrzR (mVar 6))))))) := rfl
def b_pyramid_in_3 : SM := (mSeq (mAsg (gN 7) (mTup (mCons (mD (.int 0)) (mCons (mOp2 divD (mVar 5) (mVar 1)) mNil))))
  (mPutH (mVar 2) (mVar 7) (mCallP m_joined (mCons (mDGet1 (mVar 2) (mVar 7)) (mCons (mCallP m_cell_of (mCons (mTup (mCons (mTup (mCons (mVar 5) (mCons (mVar 6) mNil))) mNil)) mNil)) mNil)))))
def f_pyramid_in_3 : SM := (mFor (mItS (mVar 0)) (gT [(gN 5), (gN 6)])
  b_pyramid_in_3)
def b_pyramid_in_2 : SM := (mSeq (mAsg (gN 7) (mTup (mCons (mVar 4) (mCons (mOp2 divD (mVar 10) (mD (.int 2))) mNil))))
  (mPutH (mVar 8) (mVar 7) (mCallP m_joined (mCons (mDGet1 (mVar 8) (mVar 7)) (mCons (mDGet (mVar 3) (mTup (mCons (mVar 9) (mCons (mVar 10) mNil)))) mNil)))))
def f_pyramid_in_2 : SM := (mFor (mItS (mFrz (mSortKeysH (mVar 3)))) (gT [(gN 9), (gN 10)])
  b_pyramid_in_2)
def b_pyramid_in_1 : SM := (mSeq (mAsg (gN 8) mDicH0)
  (mSeq f_pyramid_in_2
  (mSeq (mAsg (gN 2) (mMergeH (mVar 2) (mVar 8)))
  (mAsg (gN 3) (mVar 8)))))
def f_pyramid_in_1 : SM := (mFor (mItA range2 (mCons (mD (.int 1)) (mCons (mD (.int 51)) mNil))) (gN 4)
  b_pyramid_in_1)
theorem m_pyramid_in_eq : m_pyramid_in = fnR 11 ((mSeq (mAsg (gN 2) mDicH0)
  (mSeq f_pyramid_in_3
  (mSeq (mAsg (gN 3) (mVar 2))
  (mSeq f_pyramid_in_1
  (mRet (mVar 2))))))) := rfl
def b_power_1 : SM := (mAsg (gN 1) (mOp2 mulD (mD (.int 2)) (mVar 1)))
def f_power_1 : SM := (mFor (mItA range1 (mCons (mVar 0) mNil)) (gN 2)
  b_power_1)
theorem m_power_eq : m_power = fnR 3 ((mSeq (mAsg (gN 1) (mD (.int 1)))
  (mSeq f_power_1
  (mRet (mVar 1))))) := rfl
def c_cover_in_1 : TM := (mB (mOp2 leD (mVar 3) (mVar 1)))
def c_cover_in_2 : TM := (mAndT (mB (mOp2 ltD (mOp2 addD (mVar 4) (mD (.int 1))) (mD (.int 51)))) (mAndT (mB (mOp2 eqD (mOp2 modD (mVar 3) (mCallP m_power (mCons (mOp2 addD (mVar 4) (mD (.int 1))) mNil))) (mD (.int 0)))) (mB (mOp2 leD (mOp2 subD (mOp2 addD (mVar 3) (mCallP m_power (mCons (mOp2 addD (mVar 4) (mD (.int 1))) mNil))) (mD (.int 1))) (mVar 1)))))
def b_cover_in_2 : SM := (mAsg (gN 4) (mOp2 addD (mVar 4) (mD (.int 1))))
def w_cover_in_2 : SM := (mWhile 300 c_cover_in_2
  b_cover_in_2)
def b_cover_in_1 : SM := (mSeq (mAsg (gN 4) (mD (.int 0)))
  (mSeq w_cover_in_2
  (mSeq (mExpr (mApp (mVar 2) (mTup (mCons (mVar 4) (mCons (mOp2 divD (mVar 3) (mCallP m_power (mCons (mVar 4) mNil))) mNil)))))
  (mAsg (gN 3) (mOp2 addD (mVar 3) (mCallP m_power (mCons (mVar 4) mNil)))))))
def w_cover_in_1 : SM := (mWhile 300 c_cover_in_1
  b_cover_in_1)
theorem m_cover_in_eq : m_cover_in = fnR 5 ((mSeq (mPar [2, 3] (mCons (mNew (mDisp mNil)) (mCons (mVar 0) mNil)))
  (mSeq w_cover_in_1
  (mRet (mFrzR (mVar 2)))))) := rfl
def i_need_base_1 : SM := (mIf (mNotT (mTruth (mCallP m_is_whole (mCons (mVar 0) (mCons (mD (.int 1)) (mCons (mOp2 powD (mD (.int 10)) (mD (.int 9))) mNil))))))
  (mRaise "InvalidNumber")
  mSkip)
theorem m_need_base_eq : m_need_base = fnR 1 (i_need_base_1) := rfl
def i_need_columns_1 : SM := (mIf (mNotT (mTruth (mCallP m_is_whole (mCons (mVar 2) (mCons (mD (.int 1)) (mCons (mCB minD (mCons (mD (.int 256)) (mCons (mOp2 addD (mOp2 subD (mVar 1) (mVar 0)) (mD (.int 1))) mNil))) mNil))))))
  (mRaise "InvalidNumber")
  mSkip)
theorem m_need_columns_eq : m_need_columns = fnR 3 ((mSeq (mExpr (mCallP m_need_span (mCons (mVar 0) (mCons (mVar 1) mNil))))
  i_need_columns_1)) := rfl
def i_need_points_1 : SM := (mIf (mOrT (mAndT (mB (mOp2 neD (mVar 0) (mTup mNil))) (mNotT (mTruth (mCallP m_fits_long (mCons (mVar 0) mNil))))) (mNotT (mTruth (mOp1 (isT .tup) (mVar 0)))))
  (mRaise "InvalidSamples")
  mSkip)
theorem m_need_points_eq : m_need_points = fnR 1 (i_need_points_1) := rfl
def i_cover_1 : SM := (mIf (mOrT (mNotT (mTruth (mCallP m_is_whole (mCons (mVar 0) (mCons (mD (.int 0)) (mCons (mD (.int 1000000000000000)) mNil)))))) (mNotT (mTruth (mCallP m_is_whole (mCons (mVar 1) (mCons (mVar 0) (mCons (mD (.int 1000000000000000)) mNil)))))))
  (mRaise "InvalidNumber")
  mSkip)
theorem m_cover_eq : m_cover = fnR 2 ((mSeq i_cover_1
  (mRet (mCB tupleD (mCons (mCallP m_cover_in (mCons (mVar 0) (mCons (mVar 1) mNil))) mNil))))) := rfl
def i__law_roll_1 : SM := (mIf (mB (mOp2 gtD (mOp2 ixD (mVar 0) (mD (.int 0))) (mD (.int 0))))
  (mSeq (mAsg (gN 3) (mOp2 modD (mCB intD (mCons (mOp2 ixD (mVar 0) (mD (.int 0))) mNil)) (mVar 1)))
  (mSeq (mPut (mVar 0) (mD (.int 0)) (mOp2 divD (mOp2 ixD (mVar 0) (mD (.int 0))) (mVar 1)))
  (mRet (mVar 3))))
  mSkip)
theorem m__law_roll_eq : m__law_roll = fnR 4 ((mSeq i__law_roll_1
  (mSeq (mPut (mVar 0) (mD (.int 1)) (mOp2 modD (mCB intD (mCons (mOp2 addD (mOp2 mulD (mOp2 ixD (mVar 0) (mD (.int 1))) (mD (.int 30931))) (mD (.int 7907))) mNil)) (mD (.int 2147483399))))
  (mSeq (mAsg (gN 2) (mOp2 modD (mCB intD (mCons (mOp2 mulD (mOp2 ixD (mVar 0) (mD (.int 1))) (mOp2 addD (mOp2 ixD (mVar 0) (mD (.int 1))) (mD (.int 251)))) mNil)) (mD (.int 2147483563))))
  (mRet (mOp2 modD (mCB intD (mCons (mOp2 divD (mVar 2) (mD (.int 829))) mNil)) (mVar 1))))))) := rfl
def i__law_cell_1 : SM := (mIf (mB (mOp2 eqD (mVar 0) (mFrz (mDisp mNil))))
  (mRet (mD .none))
  mSkip)
theorem m__law_cell_eq : m__law_cell = fnR 4 ((mSeq i__law_cell_1
  (mSeq (mSetL 1 (mLc (mItS (mVar 0)) [2, 3] (gT [(gN 2), (gN 3)]) mYes (mVar 3)))
  (mRet (mTup (mCons (mCB lenD (mCons (mVar 0) mNil)) (mCons (mOp2 ixD (mVar 0) (mD (.int 0))) (mCons (mOp2 ixD (mVar 0) (mOp1 negD (mD (.int 1)))) (mCons (mCB minD (mCons (mVar 1) mNil)) (mCons (mCB maxD (mCons (mVar 1) mNil)) (mCons (mCB sumD (mCons (mVar 1) mNil)) mNil))))))))))) := rfl
def b__law_pyramid_2 : SM := (mExpr (mApp (mVar 2) (mTup (mCons (mTup (mCons (mVar 4) (mCons (mVar 5) mNil))) (mCons (mCallP m__law_cell (mCons (mFrz (mLc (mItS (mVar 0)) [6, 7] (gT [(gN 6), (gN 7)]) (mB (mChain leD ltD (mOp2 mulD (mVar 5) (mVar 3)) (mVar 6) (mOp2 mulD (mOp2 addD (mVar 5) (mD (.int 1))) (mVar 3)))) (mTup (mCons (mVar 6) (mCons (mVar 7) mNil))))) mNil)) mNil)))))
def f__law_pyramid_2 : SM := (mFor (mItS (mFrz (mSortSet (mLc (mItS (mVar 0)) [6, 7] (gT [(gN 6), (gN 7)]) mYes (mOp2 divD (mVar 6) (mVar 3)))))) (gN 5)
  b__law_pyramid_2)
def b__law_pyramid_1 : SM := (mSeq f__law_pyramid_2
  (mAsg (gN 3) (mOp2 mulD (mD (.int 2)) (mVar 3))))
def f__law_pyramid_1 : SM := (mFor (mItA range1 (mCons (mD (.int 51)) mNil)) (gN 4)
  b__law_pyramid_1)
theorem m__law_pyramid_eq : m__law_pyramid = fnR 8 ((mSeq (mAsg (gN 2) (mNew (mDisp mNil)))
  (mSeq (mAsg (gN 3) (mVar 1))
  (mSeq f__law_pyramid_1
  (mRet (mCB tupleD (mCons (mFrz (mCBL sortedD (mCons (mVar 2) mNil))) mNil))))))) := rfl
def b__law_columns_1 : SM := (mSeq (mAsg (gN 6) (mOp2 divD (mOp2 subD (mOp2 addD (mOp2 subD (mOp2 addD (mVar 1) (mD (.int 1))) (mVar 5)) (mVar 3)) (mD (.int 1))) (mVar 3)))
  (mSeq (mExpr (mApp (mVar 4) (mTup (mCons (mVar 5) (mCons (mOp2 subD (mOp2 addD (mVar 5) (mVar 6)) (mD (.int 1))) mNil)))))
  (mAsg (gN 5) (mOp2 addD (mVar 5) (mVar 6)))))
def f__law_columns_1 : SM := (mFor (mItA range3 (mCons (mVar 2) (mCons (mD (.int 0)) (mCons (mOp1 negD (mD (.int 1))) mNil)))) (gN 3)
  b__law_columns_1)
theorem m__law_columns_eq : m__law_columns = fnR 7 ((mSeq (mPar [4, 5] (mCons (mNew (mDisp mNil)) (mCons (mVar 0) mNil)))
  (mSeq f__law_columns_1
  (mRet (mFrzR (mVar 4)))))) := rfl
def i_View_put_2 : SM := (mIf (mB (mDIn false (mTup (mCons (mVar 1) (mCons (mVar 2) mNil))) (mFld "View" (Str.ofString "cells") (mVar 0))))
  (mExpr (mDPop (mFld "View" (Str.ofString "cells") (mVar 0)) (mTup (mCons (mVar 1) (mCons (mVar 2) mNil)))))
  mSkip)
def i_View_put_1 : SM := (mIf (mB (mOp2 notND (mVar 3) (mD .none)))
  (mPutH (mFld "View" (Str.ofString "cells") (mVar 0)) (mTup (mCons (mVar 1) (mCons (mVar 2) mNil))) (mVar 3))
  i_View_put_2)
theorem m_View_put_eq : m_View_put = fnR 4 ((mSeq (mSetF "View" (Str.ofString "made") (mVar 0) (mOp2 addD (mFld "View" (Str.ofString "made") (mVar 0)) (mD (.int 1))))
  i_View_put_1)) := rfl
def b_View_renew_1 : SM := (mSeq (mAsg (gN 2) (mOp2 divD (mVar 2) (mD (.int 2))))
  (mSeq (mAsg (gN 6) (mFrz (mDisp (mCons (mDGet1 (mFld "View" (Str.ofString "cells") (mVar 0)) (mTup (mCons (mOp2 subD (mVar 5) (mD (.int 1))) (mCons (mOp2 mulD (mD (.int 2)) (mVar 2)) mNil)))) (mCons (mDGet1 (mFld "View" (Str.ofString "cells") (mVar 0)) (mTup (mCons (mOp2 subD (mVar 5) (mD (.int 1))) (mCons (mOp2 addD (mOp2 mulD (mD (.int 2)) (mVar 2)) (mD (.int 1))) mNil)))) mNil)))))
  (mExpr (mMeth "View" (Str.ofString "put") m_View_put (mVar 0) (mCons (mVar 5) (mCons (mVar 2) (mCons (mCallP m_joined_all (mCons (mVar 6) mNil)) mNil)))))))
def f_View_renew_1 : SM := (mFor (mItA range2 (mCons (mD (.int 1)) (mCons (mD (.int 51)) mNil))) (gN 5)
  b_View_renew_1)
theorem m_View_renew_eq : m_View_renew = fnR 9 ((mSeq (mAsg (gN 2) (mOp2 divD (mVar 1) (mFld "View" (Str.ofString "base") (mVar 0))))
  (mSeq (mAsg (gN 3) (mOp2 mulD (mVar 2) (mFld "View" (Str.ofString "base") (mVar 0))))
  (mSeq (mAsg (gN 4) (mFrz (mCBL sortedD (mCons (mFrz (mLockL (mFld "View" (Str.ofString "points") (mVar 0)) (mLc (mItDK true (mFld "View" (Str.ofString "points") (mVar 0))) [7, 8] (gT [(gN 7), (gN 8)]) (mB (mChain leD ltD (mVar 3) (mVar 7) (mOp2 addD (mVar 3) (mFld "View" (Str.ofString "base") (mVar 0))))) (mTup (mCons (mVar 7) (mCons (mVar 8) mNil)))))) mNil))))
  (mSeq (mExpr (mMeth "View" (Str.ofString "put") m_View_put (mVar 0) (mCons (mD (.int 0)) (mCons (mVar 2) (mCons (mCallP m_cell_of (mCons (mCB tupleD (mCons (mVar 4) mNil)) mNil)) mNil)))))
  f_View_renew_1))))) := rfl
def i_View_write_2 : SM := (mIf (mNotT (mTruth (mCallP m_fits_point (mCons (mTup (mCons (mVar 1) (mCons (mVar 2) mNil))) mNil))))
  (mRaise "InvalidNumber")
  mSkip)
def i_View_write_1 : SM := (mIf (mAndT (mB (mDIn true (mVar 1) (mFld "View" (Str.ofString "points") (mVar 0)))) (mB (mOp2 eqD (mDLen (mFld "View" (Str.ofString "points") (mVar 0))) (mD (.int 4096)))))
  mNoS
  mSkip)
theorem m_View_write_eq : m_View_write = fnR 3 ((mSeq i_View_write_2
  (mSeq i_View_write_1
  (mSeq (mPut (mFld "View" (Str.ofString "points") (mVar 0)) (mVar 1) (mVar 2))
  (mExpr (mMeth "View" (Str.ofString "renew") m_View_renew (mVar 0) (mCons (mVar 1) mNil))))))) := rfl
def b_View_delete_1 : SM := (mSeq (mExpr (mDPop (mFld "View" (Str.ofString "points") (mVar 0)) (mVar 4)))
  (mExpr (mMeth "View" (Str.ofString "renew") m_View_renew (mVar 0) (mCons (mVar 4) mNil))))
def f_View_delete_1 : SM := (mFor (mItS (mVar 3)) (gN 4)
  b_View_delete_1)
theorem m_View_delete_eq : m_View_delete = fnR 5 ((mSeq (mExpr (mCallP m_need_span (mCons (mVar 1) (mCons (mVar 2) mNil))))
  (mSeq (mSetL 3 (mLockL (mFld "View" (Str.ofString "points") (mVar 0)) (mLc (mItDK false (mFld "View" (Str.ofString "points") (mVar 0))) [4] (gN 4) (mB (mChain leD leD (mVar 1) (mVar 4) (mVar 2))) (mVar 4))))
  (mSeq f_View_delete_1
  (mRet (mCB lenD (mCons (mVar 3) mNil))))))) := rfl
def i_View_span_1 : SM := (mIf (mB (mOp2 gtD (mVar 8) (mVar 9)))
  (mSeq (mAsg (gN 10) (mFrz (mCBL sortedD (mCons (mFrz (mLockL (mFld "View" (Str.ofString "points") (mVar 0)) (mLc (mItDK true (mFld "View" (Str.ofString "points") (mVar 0))) [14, 15] (gT [(gN 14), (gN 15)]) (mB (mChain leD leD (mVar 1) (mVar 14) (mVar 2))) (mTup (mCons (mVar 14) (mCons (mVar 15) mNil)))))) mNil))))
  (mRet (mTup (mCons (mCallP m_cell_of (mCons (mCB tupleD (mCons (mVar 10) mNil)) mNil)) (mCons (mCB lenD (mCons (mVar 10) mNil)) mNil)))))
  mSkip)
theorem m_View_span_eq : m_View_span = fnR 16 ((mSeq (mExpr (mCallP m_need_span (mCons (mVar 1) (mCons (mVar 2) mNil))))
  (mSeq (mPar [8, 9] (mCons (mOp1 negD (mOp2 divD (mOp1 negD (mVar 1)) (mFld "View" (Str.ofString "base") (mVar 0)))) (mCons (mOp2 subD (mOp2 divD (mOp2 addD (mVar 2) (mD (.int 1))) (mFld "View" (Str.ofString "base") (mVar 0))) (mD (.int 1))) mNil)))
  (mSeq i_View_span_1
  (mSeq (mAsg (gN 3) (mFrz (mDisp (mCons (mTup (mCons (mVar 1) (mCons (mOp2 subD (mOp2 mulD (mVar 8) (mFld "View" (Str.ofString "base") (mVar 0))) (mD (.int 1))) mNil))) (mCons (mTup (mCons (mOp2 mulD (mOp2 addD (mVar 9) (mD (.int 1))) (mFld "View" (Str.ofString "base") (mVar 0))) (mCons (mVar 2) mNil))) mNil)))))
  (mSeq (mAsg (gN 4) (mFrz (mSortItems (mFld "View" (Str.ofString "points") (mVar 0)))))
  (mSeq (mSetL 5 (mLc (mItS (mVar 3)) [12, 13] (gT [(gN 12), (gN 13)]) mYes (mCallP m_points_in (mCons (mVar 4) (mCons (mVar 12) (mCons (mVar 13) mNil))))))
  (mSeq (mSetL 6 (mLc (mItS (mCallP m_cover_in (mCons (mVar 8) (mCons (mVar 9) mNil)))) [11] (gN 11) (mB (mDIn false (mVar 11) (mFld "View" (Str.ofString "cells") (mVar 0)))) (mDGet (mFld "View" (Str.ofString "cells") (mVar 0)) (mVar 11))))
  (mSeq (mAsg (gN 7) (mCallP m_joined_all (mCons (mFrz (mOp2L (onlyL addD) (mFrz (mOp2L (onlyL addD) (mFrz (mDisp (mCons (mCallP m_cell_of (mCons (mOp2 ixD (mVar 5) (mD (.int 0))) mNil)) mNil))) (mVar 6))) (mFrz (mDisp (mCons (mCallP m_cell_of (mCons (mOp2 ixD (mVar 5) (mD (.int 1))) mNil)) mNil))))) mNil)))
  (mRet (mTup (mCons (mVar 7) (mCons (mOp2 addD (mOp2 addD (mCB lenD (mCons (mVar 6) mNil)) (mCB lenD (mCons (mOp2 ixD (mVar 5) (mD (.int 0))) mNil))) (mCB lenD (mCons (mOp2 ixD (mVar 5) (mD (.int 1))) mNil))) mNil))))))))))))) := rfl
def i_law_8 : SM := (mIf (mB (mOp2 neD (mMeth "View" (Str.ofString "delete") m_View_delete (mVar 3) (mCons (mVar 12) (mCons (mVar 13) mNil))) (mCB lenD (mCons (mVar 20) mNil))))
  (mRet (mD (.bool false)))
  mSkip)
def i_law_7 : SM := (mIf (mB (mOp2 eqD (mCall1 m__law_roll (mCons (mVar 1) (mCons (mD (.int 5)) mNil))) (mD (.int 0))))
  (mSeq (mAsg (gN 12) (mCall1 m__law_roll (mCons (mVar 1) (mCons (mVar 9) mNil))))
  (mSeq (mAsg (gN 13) (mOp2 addD (mVar 12) (mCall1 m__law_roll (mCons (mVar 1) (mCons (mD (.int 20)) mNil)))))
  (mSeq (mAsg (gN 20) (mFrz (mLockL (mVar 10) (mLc (mItDK false (mVar 10)) [23] (gN 23) (mB (mChain leD leD (mVar 12) (mVar 23) (mVar 13))) (mVar 23)))))
  (mSeq i_law_8
  (mAsgR [(gN 10), (gN 11)] (mCons (mDictK (mFrz (mLockL (mVar 10) (mLc (mItDK false (mVar 10)) [23] (gN 23) (mB (mOp2 notInD (mVar 23) (mVar 20))) (mTup (mCons (mVar 23) (mCons (mDGet (mVar 10) (mVar 23)) mNil))))))) (mCons (mOp2 addD (mVar 11) (mOp2 mulD (mD (.int 51)) (mCB lenD (mCons (mVar 20) mNil)))) mNil)))))))
  (mSeq (mPar [23, 24] (mCons (mCall1 m__law_roll (mCons (mVar 1) (mCons (mVar 9) mNil))) (mCons (mOp2 subD (mCall1 m__law_roll (mCons (mVar 1) (mCons (mD (.int 41)) mNil))) (mD (.int 20))) mNil)))
  (mSeq (mExpr (mMeth "View" (Str.ofString "write") m_View_write (mVar 3) (mCons (mVar 23) (mCons (mVar 24) mNil))))
  (mAsgR [(gN 10), (gN 11)] (mCons (mDictK (mFrz (mOp2L (onlyL addD) (mFrz (mListItems (mVar 10))) (mFrz (mDisp (mCons (mTup (mCons (mVar 23) (mCons (mVar 24) mNil))) mNil)))))) (mCons (mOp2 addD (mVar 11) (mD (.int 51))) mNil))))))
def b_law_6 : SM := i_law_7
def f_law_6 : SM := (mFor (mItA range1 (mCons (mCall1 m__law_roll (mCons (mVar 1) (mCons (mD (.int 16)) mNil))) mNil)) (gN 4)
  b_law_6)
def i_law_5 : SM := (mIf (mNotT (mTruth (mCallP (m__law_same 8) (mCons (mTup (mCons (mMeth "View" (Str.ofString "all_cells") m_View_all_cells (mVar 3) mNil) (mCons (mCallP m_cells_of (mCons (mVar 5) (mCons (mVar 8) mNil))) (mCons (mMeth "View" (Str.ofString "work") m_View_work (mVar 3) mNil) mNil)))) (mCons (mTup (mCons (mVar 6) (mCons (mVar 6) (mCons (mVar 11) mNil)))) mNil)))))
  (mRet (mD (.bool false)))
  mSkip)
def i_law_4 : SM := (mIf (mNotT (mTruth (mCallP (m__law_same 8) (mCons (mTup (mCons (mCallP m_column_spans (mCons (mVar 12) (mCons (mVar 13) (mCons (mVar 14) mNil)))) (mCons (mMeth "View" (Str.ofString "columns") m_View_columns (mVar 3) (mCons (mVar 12) (mCons (mVar 13) (mCons (mVar 14) mNil)))) (mCons (mCallP m_columns_of (mCons (mVar 5) (mCons (mVar 12) (mCons (mVar 13) (mCons (mVar 14) mNil))))) mNil)))) (mCons (mTup (mCons (mCB tupleD (mCons (mVar 15) mNil)) (mCons (mVar 16) (mCons (mVar 16) mNil)))) mNil)))))
  (mRet (mD (.bool false)))
  mSkip)
def i_law_3 : SM := (mIf (mNotT (mTruth (mCallP (m__law_same 8) (mCons (mMeth "View" (Str.ofString "span") m_View_span (mVar 3) (mCons (mVar 12) (mCons (mVar 13) mNil))) (mCons (mTup (mCons (mVar 19) (mCons (mOp2 addD (mCB lenD (mCons (mVar 17) mNil)) (mCB lenD (mCons (mVar 18) mNil))) mNil))) mNil)))))
  (mRet (mD (.bool false)))
  mSkip)
def b_law_2 : SM := (mSeq (mAsg (gN 12) (mCall1 m__law_roll (mCons (mVar 1) (mCons (mVar 9) mNil))))
  (mSeq (mAsg (gN 13) (mOp2 addD (mVar 12) (mCall1 m__law_roll (mCons (mVar 1) (mCons (mVar 9) mNil)))))
  (mSeq (mAsg (gN 14) (mOp2 addD (mD (.int 1)) (mCall1 m__law_roll (mCons (mVar 1) (mCons (mCB minD (mCons (mD (.int 8)) (mCons (mOp2 addD (mOp2 subD (mVar 13) (mVar 12)) (mD (.int 1))) mNil))) mNil)))))
  (mSeq (mAsg (gN 15) (mCallP m__law_columns (mCons (mVar 12) (mCons (mVar 13) (mCons (mVar 14) mNil)))))
  (mSeq (mAsg (gN 16) (mCB tupleD (mCons (mFrz (mLc (mItS (mVar 15)) [26, 27] (gT [(gN 26), (gN 27)]) mYes (mCallP m__law_cell (mCons (mFrz (mLc (mItS (mVar 5)) [23, 24] (gT [(gN 23), (gN 24)]) (mB (mChain leD leD (mVar 26) (mVar 23) (mVar 27))) (mTup (mCons (mVar 23) (mCons (mVar 24) mNil))))) mNil)))) mNil)))
  (mSeq i_law_4
  (mSeq (mAsgR [(gN 21), (gN 22)] (mCons (mOp2 divD (mOp2 subD (mOp2 addD (mVar 12) (mVar 8)) (mD (.int 1))) (mVar 8)) (mCons (mOp2 subD (mOp2 divD (mOp2 addD (mVar 13) (mD (.int 1))) (mVar 8)) (mD (.int 1))) mNil)))
  (mSeq (mAsg (gN 17) (mIfE (mB (mOp2 leD (mVar 21) (mVar 22))) (mFrz (mLc (mItS (mCallP m_cover (mCons (mVar 21) (mCons (mVar 22) mNil)))) [25] (gN 25) (mB (mDIn false (mVar 25) (mDictH (mVar 6)))) (mVar 25))) (mFrz (mDisp mNil))))
  (mSeq (mSetL 18 (mLc (mItS (mVar 5)) [23, 24] (gT [(gN 23), (gN 24)]) (mAndT (mB (mChain leD leD (mVar 12) (mVar 23) (mVar 13))) (mOrT (mB (mOp2 gtD (mVar 21) (mVar 22))) (mNotT (mB (mChain leD leD (mVar 21) (mOp2 divD (mVar 23) (mVar 8)) (mVar 22)))))) (mD (.int 1))))
  (mSeq (mAsg (gN 19) (mCallP m__law_cell (mCons (mFrz (mLc (mItS (mVar 5)) [23, 24] (gT [(gN 23), (gN 24)]) (mB (mChain leD leD (mVar 12) (mVar 23) (mVar 13))) (mTup (mCons (mVar 23) (mCons (mVar 24) mNil))))) mNil)))
  i_law_3))))))))))
def f_law_2 : SM := (mFor (mItA range1 (mCons (mD (.int 4)) mNil)) (gN 7)
  b_law_2)
def b_law_1 : SM := (mSeq (mAsgR [(gN 8), (gN 9)] (mCons (mCall1 m__law_some (mCons (mVar 1) (mCons (mFrz (mDisp (mCons (mD (.int 1)) (mCons (mD (.int 2)) (mCons (mD (.int 7)) (mCons (mD (.int 100)) mNil)))))) mNil))) (mCons (mCall1 m__law_some (mCons (mVar 1) (mCons (mFrz (mDisp (mCons (mD (.int 30)) (mCons (mD (.int 400)) mNil)))) mNil))) mNil)))
  (mSeq (mAsgR [(gN 3), (gN 10), (gN 11)] (mCons (mMake "View" m_View___init__ (mCons (mVar 8) mNil)) (mCons mDic0 (mCons (mD (.int 0)) mNil))))
  (mSeq f_law_6
  (mSeq (mAsg (gN 5) (mCB tupleD (mCons (mFrz (mSortItems (mVar 10))) mNil)))
  (mSeq (mAsg (gN 6) (mCallP m__law_pyramid (mCons (mVar 5) (mCons (mVar 8) mNil))))
  (mSeq i_law_5
  f_law_2))))))
def f_law_1 : SM := (mFor (mItA range1 (mCons (mD (.int 3)) mNil)) (gN 2)
  b_law_1)
theorem m_law_eq : m_law = fnR 28 ((mSeq (mAsg (gN 1) (mCallS m__law_cup (mCons (mVar 0) mNil)))
  (mSeq f_law_1
  (mSeq (mAsg (gN 3) (mMake "View" m_View___init__ (mCons (mOp2 addD (mD (.int 1)) (mCall1 m__law_roll (mCons (mVar 1) (mCons (mOp2 powD (mD (.int 10)) (mD (.int 9))) mNil)))) mNil)))
  (mSeq (mExpr (mMeth "View" (Str.ofString "write") m_View_write (mVar 3) (mCons (mOp2 powD (mD (.int 10)) (mD (.int 15))) (mCons (mD (.int 4)) mNil))))
  (mSeq (mExpr (mMeth "View" (Str.ofString "write") m_View_write (mVar 3) (mCons (mD (.int 0)) (mCons (mD (.int 3)) mNil))))
  (mRet (mCallP (m__law_same 8) (mCons (mTup (mCons (mOp2 ixD (mMeth "View" (Str.ofString "span") m_View_span (mVar 3) (mCons (mD (.int 0)) (mCons (mOp2 powD (mD (.int 10)) (mD (.int 15))) mNil))) (mD (.int 0))) (mCons (mMeth "View" (Str.ofString "columns") m_View_columns (mVar 3) (mCons (mD (.int 0)) (mCons (mOp2 powD (mD (.int 10)) (mD (.int 15))) (mCons (mD (.int 2)) mNil)))) mNil))) (mCons (mTup (mCons (mTup (mCons (mD (.int 2)) (mCons (mTup (mCons (mD (.int 0)) (mCons (mD (.int 3)) mNil))) (mCons (mTup (mCons (mOp2 powD (mD (.int 10)) (mD (.int 15))) (mCons (mD (.int 4)) mNil))) (mCons (mD (.int 3)) (mCons (mD (.int 4)) (mCons (mD (.int 7)) mNil))))))) (mCons (mTup (mCons (mTup (mCons (mD (.int 1)) (mCons (mTup (mCons (mD (.int 0)) (mCons (mD (.int 3)) mNil))) (mCons (mTup (mCons (mD (.int 0)) (mCons (mD (.int 3)) mNil))) (mCons (mD (.int 3)) (mCons (mD (.int 3)) (mCons (mD (.int 3)) mNil))))))) (mCons (mTup (mCons (mD (.int 1)) (mCons (mTup (mCons (mOp2 powD (mD (.int 10)) (mD (.int 15))) (mCons (mD (.int 4)) mNil))) (mCons (mTup (mCons (mOp2 powD (mD (.int 10)) (mD (.int 15))) (mCons (mD (.int 4)) mNil))) (mCons (mD (.int 4)) (mCons (mD (.int 4)) (mCons (mD (.int 4)) mNil))))))) mNil))) mNil))) mNil)))))))))) := rfl
end G94

set_option Elab.async false
set_option linter.all false
set_option maxRecDepth 100000
/-! PiEv: mirrors run by simp. -/
namespace Pi
open PySem

def optB {α β : Type} (o : Option α) (f : α → Res β) : Res β := match o with
  | some x => f x
  | none => .no
@[simp] theorem optB_some {α β : Type} (x : α) (f : α → Res β) : optB (some x) f = f x := Eq.trans rfl rfl
@[simp] theorem optB_none {α β : Type} (f : α → Res β) : optB (none : Option α) f = .no := Eq.trans rfl rfl
def optR (o : Option D) (S : Store) : Res R := match o with
  | some z => .ok (.d z) S
  | none => .no
@[simp] theorem optR_some (z : D) (S : Store) : optR (some z) S = .ok (.d z) S := Eq.trans rfl rfl
@[simp] theorem optR_none (S : Store) : optR none S = .no := Eq.trans rfl rfl
def getV (o : Option (Option R)) (S : Store) : Res R := match o with
  | some (some r) => .ok r S
  | _ => .no
@[simp] theorem getV_some (r : R) (S : Store) : getV (some (some r)) S = .ok r S := Eq.trans rfl rfl
def boolR : R → Store → Res Bool
  | .d (.bool k), S => .ok k S
  | _, _ => .no
@[simp] theorem boolR_bool (k : Bool) (S : Store) : boolR (.d (.bool k)) S = .ok k S := Eq.trans rfl rfl
def chR {α : Type} (o : Option D) (t f : Unit → Res α) : Res α := match o with
  | some (.bool true) => t ()
  | some (.bool false) => f ()
  | _ => .no
@[simp] theorem chR_bool {α : Type} (k : Bool) (t f : Unit → Res α) : chR (some (.bool k)) t f = if k = true then t () else f () := by cases k <;> rfl
@[simp] theorem rd_d (S : Store) (x : D) : rd S (.d x) = some x := Eq.trans rfl rfl
theorem rd_ref {S : Store} {i : Nat} {xs : List D} (h : S[i]? = some (.lst xs)) : rd S (.ref i) = some (.list xs) := by unfold rd; simp [h]
@[simp] theorem rdR_d (x : D) : rdR (.d x) = some x := Eq.trans rfl rfl
@[simp] theorem rdR_ref (i : Nat) : rdR (.ref i) = none := Eq.trans rfl rfl
section
variable (ρ : Env) (S : Store) (a b c : EM) (ta tb : TM) (g g' : D → D → Option D)
@[simp] theorem mVar_ev (i : Nat) : mVar i ρ S = getV (ρ[i]?) S := Eq.trans rfl rfl
@[simp] theorem mD_ev (x : D) : mD x ρ S = .ok (.d x) S := Eq.trans rfl rfl
@[simp] theorem mOp1_ev (f : D → Option D) : mOp1 f a ρ S = (a ρ S).bind fun x S1 => optB (rd S1 x) fun x' => optR (f x') S1 := by
  unfold mOp1
  congr 1; funext x S1
  cases rd S1 x with
  | none => rfl
  | some x' =>
    simp only [optB_some]
    cases f x' <;> rfl
@[simp] theorem mOp2_ev : mOp2 g a b ρ S = (a ρ S).bind fun x S1 => (b ρ S1).bind fun y S2 => optB (rd S2 x) fun x' => optB (rd S2 y) fun y' => optR (g x' y') S2 := by
  unfold mOp2
  congr 1; funext x S1
  congr 1; funext y S2
  cases rd S2 x <;> cases rd S2 y <;> rfl
@[simp] theorem mChain_ev : mChain g g' a b c ρ S = (a ρ S).bind fun x S1 => (b ρ S1).bind fun y S2 => optB (rd S2 x) fun x' => optB (rd S2 y) fun y' => chR (g x' y')
    (fun _ => (c ρ S2).bind fun z S3 => optB (rd S3 y) fun y'' => optB (rd S3 z) fun z' => optR (g' y'' z') S3) (fun _ => .ok (.d (.bool false)) S2) := by
  unfold mChain
  congr 1; funext x S1
  congr 1; funext y S2
  cases rd S2 x with
  | none => rfl
  | some x' =>
    cases rd S2 y with
    | none => rfl
    | some y' =>
      simp only [optB_some]
      cases g x' y' with
      | none => rfl
      | some k =>
        cases k with
        | bool k =>
          cases k with
          | false => rfl
          | true =>
            show (c ρ S2).bind _ = (c ρ S2).bind _
            congr 1; funext z S3
            cases rd S3 y <;> cases rd S3 z <;> rfl
        | _ => rfl
@[simp] theorem mTruth_ev : mTruth a ρ S = (a ρ S).bind fun x S1 => optB (rd S1 x) fun x' => optB (truD x') fun k => .ok k S1 := by
  unfold mTruth
  congr 1; funext x S1
  cases rd S1 x with
  | none => rfl
  | some x' =>
    simp only [optB_some]
    show Res.opt (truD x') S1 = _
    cases truD x' <;> rfl
@[simp] theorem mB_ev : mB a ρ S = (a ρ S).bind boolR := by
  unfold mB
  congr 1; funext r S1
  cases r with
  | ref _ => rfl
  | d x => cases x <;> rfl
@[simp] theorem mNotT_ev : mNotT ta ρ S = (ta ρ S).bind fun k S1 => .ok (!k) S1 := Eq.trans rfl rfl
@[simp] theorem mAndT_ev : mAndT ta tb ρ S = (ta ρ S).bind fun k S1 => if k = true then tb ρ S1 else .ok false S1 := by
  unfold mAndT
  congr 1; funext k S1; cases k <;> rfl
@[simp] theorem mOrT_ev : mOrT ta tb ρ S = (ta ρ S).bind fun k S1 => if k = true then .ok true S1 else tb ρ S1 := by
  unfold mOrT
  congr 1; funext k S1; cases k <;> rfl
@[simp] theorem mIfE_ev : mIfE ta a b ρ S = (ta ρ S).bind fun k S1 => if k = true then a ρ S1 else b ρ S1 := by
  unfold mIfE
  congr 1; funext k S1; cases k <;> rfl
@[simp] theorem mAndV_ev : mAndV a b ρ S = (a ρ S).bind fun x S1 => optB (rd S1 x) fun x' => optB (truD x') fun k => if k = true then b ρ S1 else .ok x S1 := by
  unfold mAndV
  congr 1; funext x S1
  cases rd S1 x with
  | none => rfl
  | some x' =>
    simp only [optB_some]
    cases truD x' with
    | none => rfl
    | some k => cases k <;> rfl
@[simp] theorem mOrV_ev : mOrV a b ρ S = (a ρ S).bind fun x S1 => optB (rd S1 x) fun x' => optB (truD x') fun k => if k = true then .ok x S1 else b ρ S1 := by
  unfold mOrV
  congr 1; funext x S1
  cases rd S1 x with
  | none => rfl
  | some x' =>
    simp only [optB_some]
    cases truD x' with
    | none => rfl
    | some k => cases k <;> rfl
@[simp] theorem mNotV_ev : mNotV a ρ S = (a ρ S).bind fun x S1 => optB (rd S1 x) fun x' => optB (truD x') fun k => .ok (.d (.bool (!k))) S1 := by
  unfold mNotV
  congr 1; funext x S1
  cases rd S1 x with
  | none => rfl
  | some x' =>
    simp only [optB_some]
    cases truD x' with
    | none => rfl
    | some k => rfl
@[simp] theorem mNil_ev : mNil ρ S = .ok [] S := Eq.trans rfl rfl
@[simp] theorem mCons_ev (r : AM) : mCons a r ρ S = (a ρ S).bind fun x S1 => (r ρ S1).bind fun xs S2 => .ok (x :: xs) S2 := Eq.trans rfl rfl
@[simp] theorem mYes_ev : mYes ρ S = .ok true S := Eq.trans rfl rfl
variable (am : AM) (l : IM)
@[simp] theorem mTup_ev : mTup am ρ S = (am ρ S).bind fun xs S1 => optB (allD xs) fun ds => if ds.length ≤ sizeLine then .ok (.d (.tuple ds)) S1 else .no := by
  unfold mTup
  congr 1; funext xs S1; cases allD xs <;> rfl
@[simp] theorem mCB_ev (f : List D → Option D) : mCB f am ρ S = (am ρ S).bind fun xs S1 => optB (rdAll S1 xs) fun ds => optR (f ds) S1 := by
  unfold mCB
  congr 1; funext xs S1
  cases rdAll S1 xs <;> rfl
@[simp] theorem mDisp_ev : mDisp am ρ S = (am ρ S).bind fun xs S1 => optB (allD xs) fun ds => if ds.length ≤ sizeLine then .ok ds S1 else .no := by
  unfold mDisp
  congr 1; funext xs S1; cases allD xs <;> rfl
@[simp] theorem mCBL_ev (f : List D → Option (List D)) : mCBL f am ρ S = (am ρ S).bind fun xs S1 => optB (rdAll S1 xs) fun ds => optB (f ds) fun zs => .ok zs S1 := by
  unfold mCBL
  congr 1; funext xs S1
  cases rdAll S1 xs with
  | none => rfl
  | some ds =>
    simp only [optB_some]
    show Res.opt (f ds) S1 = _
    cases f ds <;> rfl
@[simp] theorem mOp2L_ev (f : D → D → Option (List D)) : mOp2L f a b ρ S = (a ρ S).bind fun x S1 => (b ρ S1).bind fun y S2 => optB (rd S2 x) fun x' => optB (rd S2 y) fun y' => optB (f x' y') fun zs => .ok zs S2 := by
  unfold mOp2L
  congr 1; funext x S1
  congr 1; funext y S2
  cases rd S2 x with
  | none => rfl
  | some x' =>
    cases rd S2 y with
    | none => rfl
    | some y' =>
      simp only [optB_some]
      show Res.opt (f x' y') S2 = _
      cases f x' y' <;> rfl
@[simp] theorem mFrz_ev : mFrz l ρ S = (l ρ S).bind fun ds S1 => .ok (.d (.list ds)) S1 := Eq.trans rfl rfl
@[simp] theorem mNew_ev : mNew l ρ S = (l ρ S).bind fun ds S1 => .ok (.ref S1.length) (S1 ++ [.lst ds]) := Eq.trans rfl rfl
@[simp] theorem mItS_ev : mItS a ρ S = (a ρ S).bind fun x S1 => optB (rdR x) fun x' => optB (itD x') fun zs => .ok zs S1 := by
  unfold mItS
  congr 1; funext x S1
  cases rdR x with
  | none => rfl
  | some x' =>
    simp only [optB_some]
    show Res.opt (itD x') S1 = _
    cases itD x' <;> rfl
@[simp] theorem mItA_ev (f : List D → Option (List D)) : mItA f am ρ S = (am ρ S).bind fun xs S1 => optB (allD xs) fun ds => optB (f ds) fun zs => .ok zs S1 := by
  unfold mItA
  congr 1; funext xs S1
  cases allD xs with
  | none => rfl
  | some ds =>
    simp only [optB_some]
    show Res.opt (f ds) S1 = _
    cases f ds <;> rfl
@[simp] theorem allD_nil : allD [] = some [] := Eq.trans rfl rfl
@[simp] theorem allD_cons (x : D) (r : List R) : allD (.d x :: r) = (allD r).map (x :: ·) := by
  show (match allD r with | some xs => some (x :: xs) | none => none) = _
  cases allD r <;> rfl
@[simp] theorem rdAll_nil : rdAll S [] = some [] := Eq.trans rfl rfl
@[simp] theorem rdAll_cons (x : R) (r : List R) : rdAll S (x :: r) = (rd S x).bind fun x' => (rdAll S r).map (x' :: ·) := by
  show (match rd S x, rdAll S r with | some x', some xs => some (x' :: xs) | _, _ => none) = _
  cases rd S x <;> cases rdAll S r <;> rfl
/-! calls -/
@[simp] theorem mCallP_ev (F : Fn) : mCallP F am ρ S = (am ρ S).bind fun xs S1 => optB (allD xs) fun ds => runP F ds S1 := by
  unfold mCallP
  congr 1; funext xs S1; cases allD xs <;> rfl
@[simp] theorem mCallS_ev (F : Fn) : mCallS F am ρ S = (am ρ S).bind fun xs S1 => F xs S1 := Eq.trans rfl rfl
theorem runP_ok {F : Fn} {ds : List D} {z : D} {S' : Store} (h : F (ds.map .d) [] = .ok (.d z) S') : runP F ds S = .ok (.d z) S := by unfold runP; rw [h]
theorem run1_ok {F : Fn} {i : Nat} {ds : List D} {z : D} {xs ys : List D} {T : Store} (hS : S[i]? = some (.lst xs)) (h : F (.ref 0 :: ds.map .d) [.lst xs] = .ok (.d z) (.lst ys :: T)) : run1 F i ds S = .ok (.d z) (S.set i (.lst ys)) := by
  unfold run1; simp only [hS, h]
def call1 (F : Fn) (S : Store) : List R → Res R
  | .ref i :: r => optB (allD r) fun ds => run1 F i ds S
  | _ => .no
@[simp] theorem call1_ref (F : Fn) (i : Nat) (r : List R) : call1 F S (.ref i :: r) = optB (allD r) fun ds => run1 F i ds S := Eq.trans rfl rfl
@[simp] theorem mCall1_ev (F : Fn) : mCall1 F am ρ S = (am ρ S).bind fun xs S1 => call1 F S1 xs := by
  unfold mCall1
  congr 1; funext xs S1
  cases xs with
  | nil => rfl
  | cons x r =>
    cases x with
    | d _ => rfl
    | ref i =>
      simp only [call1]
      cases allD r <;> rfl
/-! statements -/
def Out.seq (o : Out) (b : SM) : Out := match o with
  | .nx ρ1 S1 => b ρ1 S1
  | o => o
@[simp] theorem seq_nx (b : SM) : (Out.nx ρ S).seq b = b ρ S := Eq.trans rfl rfl
@[simp] theorem seq_rt (r : R) (b : SM) : (Out.rt r S).seq b = .rt r S := Eq.trans rfl rfl
@[simp] theorem seq_ex (x : Xn) (b : SM) : (Out.ex x ρ S).seq b = .ex x ρ S := Eq.trans rfl rfl
@[simp] theorem seq_no (b : SM) : Out.no.seq b = .no := Eq.trans rfl rfl
variable (sa sb : SM)
@[simp] theorem mSeq_ev : mSeq sa sb ρ S = (sa ρ S).seq sb := by
  unfold mSeq Out.seq
  cases sa ρ S <;> rfl
@[simp] theorem mSkip_ev : mSkip ρ S = .nx ρ S := Eq.trans rfl rfl
@[simp] theorem mExpr_ev : mExpr a ρ S = (a ρ S).out ρ fun _ S1 => .nx ρ S1 := Eq.trans rfl rfl
@[simp] theorem mRet_ev : mRet a ρ S = (a ρ S).out ρ fun r S1 => .rt r S1 := Eq.trans rfl rfl
@[simp] theorem mRetN_ev : mRetN ρ S = .rt (.d .none) S := Eq.trans rfl rfl
@[simp] theorem mIf_ev : mIf ta sa sb ρ S = (ta ρ S).out ρ fun k S1 => if k = true then sa ρ S1 else sb ρ S1 := by
  unfold mIf
  congr 1; funext k S1; cases k <;> rfl
def optG (o : Option (Env × Store)) : Out := match o with
  | some (ρ2, S2) => .nx ρ2 S2
  | none => .no
@[simp] theorem optG_some (x : Env × Store) : optG (some x) = .nx x.1 x.2 := Eq.trans rfl rfl
@[simp] theorem optG_none : optG none = .no := Eq.trans rfl rfl
@[simp] theorem mAsg_ev (t : GM) : mAsg t a ρ S = (a ρ S).out ρ fun r S1 => optG (t r ρ S1) := by
  unfold mAsg
  congr 1
@[simp] theorem gN_ev (i : Nat) (r : R) : gN i r ρ S = some (ρ.set i (some r), S) := Eq.trans rfl rfl
@[simp] theorem gT_tup (gs : List GM) (ds : List D) : gT gs (.d (.tuple ds)) ρ S = gAll gs ds ρ S := Eq.trans rfl rfl
@[simp] theorem gT_lst (gs : List GM) (ds : List D) : gT gs (.d (.list ds)) ρ S = gAll gs ds ρ S := Eq.trans rfl rfl
@[simp] theorem gAll_nil : gAll [] [] ρ S = some (ρ, S) := Eq.trans rfl rfl
@[simp] theorem gAll_cons (t : GM) (gs : List GM) (d : D) (ds : List D) : gAll (t :: gs) (d :: ds) ρ S = (t (.d d) ρ S).bind fun x => gAll gs ds x.1 x.2 := by
  show (match t (.d d) ρ S with | some (ρ1, S1) => gAll gs ds ρ1 S1 | none => none) = _
  cases t (.d d) ρ S <;> rfl
@[simp] theorem mSetL_ev (i : Nat) : mSetL i l ρ S = (l ρ S).out ρ fun ds S1 => if i < ρ.length then .nx (ρ.set i (some (.d (.list ds)))) S1 else .no := Eq.trans rfl rfl
@[simp] theorem mPar_ev (is : List Nat) : mPar is am ρ S = (am ρ S).out ρ fun rs S1 => if rs.length = is.length then .nx ((is.zip rs).foldl (fun ρ p => ρ.set p.1 (some p.2)) ρ) S1 else .no := Eq.trans rfl rfl
@[simp] theorem mRaise_ev (x : String) : mRaise x ρ S = .ex ⟨x, []⟩ ρ S := Eq.trans rfl rfl
@[simp] theorem mFor_ev (t : GM) : mFor l t sb ρ S = (l ρ S).out ρ fun ds S1 => forLoop t sb ds ρ S1 := Eq.trans rfl rfl
@[simp] theorem forLoop_nil (t : GM) : forLoop t sb [] ρ S = .nx ρ S := Eq.trans rfl rfl
def optO (o : Option (Env × Store)) (f : Env → Store → Out) : Out := match o with
  | some (ρ1, S1) => f ρ1 S1
  | none => .no
@[simp] theorem optO_some (x : Env × Store) (f : Env → Store → Out) : optO (some x) f = f x.1 x.2 := Eq.trans rfl rfl
theorem forLoop_cons (t : GM) (d : D) (ds : List D) : forLoop t sb (d :: ds) ρ S = optO (t (.d d) ρ S) fun ρ1 S1 => (sb ρ1 S1).seq fun ρ2 S2 => forLoop t sb ds ρ2 S2 := by
  show (match t (.d d) ρ S with | some (ρ1, S1) => (match sb ρ1 S1 with | .nx ρ2 S2 => forLoop t sb ds ρ2 S2 | o => o) | none => .no) = _
  cases t (.d d) ρ S with
  | none => rfl
  | some z =>
    obtain ⟨ρ1, S1⟩ := z
    show (match sb ρ1 S1 with | .nx ρ2 S2 => forLoop t sb ds ρ2 S2 | o => o) = (sb ρ1 S1).seq _
    unfold Out.seq
    cases sb ρ1 S1 <;> rfl
theorem whileLoop_succ (n : Nat) : whileLoop ta sb (n + 1) ρ S = (ta ρ S).out ρ fun k S1 => if k = true then (sb ρ S1).seq fun ρ2 S2 => whileLoop ta sb n ρ2 S2 else .nx ρ S1 := by
  show (ta ρ S).out ρ _ = _
  congr 1; funext k S1
  cases k with
  | false => rfl
  | true =>
    show (match sb ρ S1 with | .nx ρ2 S2 => whileLoop ta sb n ρ2 S2 | o => o) = (sb ρ S1).seq _
    unfold Out.seq
    cases sb ρ S1 <;> rfl
def outF (o : Out) : Res R := match o with
  | .nx _ S' => .ok (.d .none) S'
  | .rt r S' => .ok r S'
  | .ex x _ S' => .ex x S'
  | .no => .no
@[simp] theorem outF_nx : outF (.nx ρ S) = .ok (.d .none) S := Eq.trans rfl rfl
@[simp] theorem outF_rt (r : R) : outF (.rt r S) = .ok r S := Eq.trans rfl rfl
@[simp] theorem outF_ex (x : Xn) : outF (.ex x ρ S) = .ex x S := Eq.trans rfl rfl
theorem fnR_ev (n : Nat) (rs : List R) : fnR n sb rs S = outF (sb (startR n rs) S) := by
  unfold fnR outF
  cases sb (startR n rs) S <;> rfl
@[simp] theorem mLc_ev (own : List Nat) (t : GM) (el : EM) : mLc l own t ta el ρ S = (l ρ S).bind fun ds S1 => (noEx (lcLoop (wipeR ρ own) t ta el ds S1)).bind fun ys S2 => if ys.length ≤ sizeLine then .ok ys S2 else .no := by
  unfold mLc
  congr 1; funext ds S1
  cases lcLoop (wipeR ρ own) t ta el ds S1 <;> rfl
@[simp] theorem noEx_okE {α : Type} (x : α) : noEx (.ok x S) = .ok x S := Eq.trans rfl rfl
@[simp] theorem lcLoop_nil (t : GM) (el : EM) : lcLoop ρ t ta el [] S = .ok [] S := Eq.trans rfl rfl
def optL {β : Type} (o : Option (Env × Store)) (f : Env → Store → Res β) : Res β := match o with
  | some (ρ1, S1) => f ρ1 S1
  | none => .no
@[simp] theorem optL_some {β : Type} (x : Env × Store) (f : Env → Store → Res β) : optL (some x) f = f x.1 x.2 := Eq.trans rfl rfl
theorem lcLoop_cons (t : GM) (el : EM) (d : D) (ds : List D) : lcLoop ρ t ta el (d :: ds) S = optL (t (.d d) ρ S) fun ρ1 S1 => (ta ρ1 S1).bind fun k S2 => if k = true then
    (el ρ1 S2).bind fun r S3 => optB (rdR r) fun y => (lcLoop ρ t ta el ds S3).bind fun ys S4 => .ok (y :: ys) S4
    else lcLoop ρ t ta el ds S2 := by
  have e : lcLoop ρ t ta el (d :: ds) S = match t (.d d) ρ S with
    | some (ρ1, S1) => (ta ρ1 S1).bind fun k S2 => match k with
      | true => (el ρ1 S2).bind fun r S3 => match rdR r with
        | some y => (lcLoop ρ t ta el ds S3).bind fun ys S4 => .ok (y :: ys) S4
        | none => .no
      | false => lcLoop ρ t ta el ds S2
    | none => .no := rfl
  rw [e]
  cases t (.d d) ρ S with
  | none => rfl
  | some z =>
    obtain ⟨ρ1, S1⟩ := z
    simp only [optL_some]
    congr 1; funext k S2
    cases k with
    | false => rfl
    | true =>
      simp only [if_true]
      congr 1; funext r S3
      cases rdR r <;> rfl
@[simp] theorem wipeR_nil : wipeR ρ [] = ρ := Eq.trans rfl rfl
@[simp] theorem wipeR_cons (v : Nat) (vs : List Nat) : wipeR ρ (v :: vs) = (wipeR ρ vs).set v none := Eq.trans rfl rfl
/-- a comprehension that maps, no condition, nothing of the store changed -/
theorem lc_map {t : GM} {el : EM} {f : D → D} : ∀ {ds : List D}, (∀ d ∈ ds, ∃ ρ1 , t (.d d) ρ S = some (ρ1, S) ∧ el ρ1 S = .ok (.d (f d)) S) → lcLoop ρ t mYes el ds S = .ok (ds.map f) S
  | [], _ => rfl
  | d :: ds, h => by
    obtain ⟨ρ1, h1, h2⟩ := h d List.mem_cons_self
    rw [lcLoop_cons, h1]
    simp [h2, lc_map fun d' hd => h d' (List.mem_cons_of_mem _ hd)]
/-- .. that keeps some -/
theorem lc_filter {t : GM} {ta : TM} {el : EM} {p : D → Bool} {f : D → D} : ∀ {ds : List D}, (∀ d ∈ ds, ∃ ρ1 , t (.d d) ρ S = some (ρ1, S) ∧ ta ρ1 S = .ok (p d) S ∧ (p d = true → el ρ1 S = .ok (.d (f d)) S)) → lcLoop ρ t ta el ds S = .ok ((ds.filter p).map f) S
  | [], _ => rfl
  | d :: ds, h => by
    obtain ⟨ρ1, h1, h2, h3⟩ := h d List.mem_cons_self
    rw [lcLoop_cons, h1]
    have ih := lc_filter (t := t) (ta := ta) (el := el) (p := p) (f := f) fun d' hd => h d' (List.mem_cons_of_mem _ hd)
    cases q : p d with
    | false => simp [h2, q, ih]
    | true => simp [h2, q, ih, h3 q]
end
section
variable {α : Type} (g : α → D)
/-- a comprehension over typed items -/
theorem lc_of {ρ : Env} {S : Store} {t : GM} {ta : TM} {el : EM} {p : α → Bool} {f : α → D} : ∀ {xs : List α}, (∀ x ∈ xs, ∃ ρ1, t (.d (g x)) ρ S = some (ρ1, S) ∧ ta ρ1 S = .ok (p x) S ∧ (p x = true → el ρ1 S = .ok (.d (f x)) S)) → lcLoop ρ t ta el (xs.map g) S = .ok ((xs.filter p).map f) S
  | [], _ => rfl
  | x :: xs, h => by
    obtain ⟨ρ1, h1, h2, h3⟩ := h x List.mem_cons_self
    have ih := lc_of (xs := xs) fun x' hx => h x' (List.mem_cons_of_mem _ hx)
    rw [List.map_cons, lcLoop_cons, h1]
    cases q : p x with
    | false => simp [h2, q, ih]
    | true => simp [h2, q, ih, h3 q]
/-- .. without a condition -/
theorem lc_all {ρ : Env} {S : Store} {t : GM} {el : EM} {f : α → D} : ∀ {xs : List α}, (∀ x ∈ xs, ∃ ρ1, t (.d (g x)) ρ S = some (ρ1, S) ∧ el ρ1 S = .ok (.d (f x)) S) → lcLoop ρ t mYes el (xs.map g) S = .ok (xs.map f) S
  | [], _ => rfl
  | x :: xs, h => by
    obtain ⟨ρ1, h1, h2⟩ := h x List.mem_cons_self
    have ih := lc_all (xs := xs) fun x' hx => h x' (List.mem_cons_of_mem _ hx)
    rw [List.map_cons, lcLoop_cons, h1]
    simp [h2, ih]
end
def partR : R → Store → Res (Option Int)
  | .d (.int i), S => .ok (some i) S
  | _, _ => .no
@[simp] theorem partR_int (i : Int) (S : Store) : partR (.d (.int i)) S = .ok (some i) S := Eq.trans rfl rfl
@[simp] theorem mPart_ev (ρ : Env) (S : Store) (a : EM) : mPart a ρ S = (a ρ S).bind partR := by
  unfold mPart
  congr 1; funext x S1
  cases x with
  | ref _ => rfl
  | d y => cases y <;> rfl
theorem intsD_map : ∀ xs : List Int, intsD (xs.map .int) = some xs
  | [] => rfl
  | x :: xs => by show (intsD (xs.map .int)).map (x :: ·) = _; rw [intsD_map xs]; rfl
theorem boolsD_map : ∀ xs : List Bool, boolsD (xs.map .bool) = some xs
  | [] => rfl
  | x :: xs => by show (boolsD (xs.map .bool)).map (x :: ·) = _; rw [boolsD_map xs]; rfl
@[simp] theorem mSortSet_ev (ρ : Env) (S : Store) (l : IM) : mSortSet l ρ S = (l ρ S).bind fun ds S1 => optB (intsD ds) fun ns => if ns.length < 60 then .ok ((sortU ns).map .int) S1 else .no := by
  unfold mSortSet
  congr 1; funext ds S1
  cases intsD ds <;> rfl
@[simp] theorem intsD_nil : intsD [] = some [] := Eq.trans rfl rfl
@[simp] theorem intsD_cons (x : Int) (r : List D) : intsD (.int x :: r) = (intsD r).map (x :: ·) := Eq.trans rfl rfl
@[simp] theorem mSlice_ev (ρ : Env) (S : Store) (a : EM) (lo hi : OM) : mSlice a lo hi ρ S = (a ρ S).bind fun x S1 => (lo ρ S1).bind fun l S2 => (hi ρ S2).bind fun h S3 => optB (rd S3 x) fun x' => optR (sliceD x' l h) S3 := by
  unfold mSlice
  congr 1; funext x S1
  congr 1; funext l S2
  congr 1; funext h S3
  cases rd S3 x with
  | none => rfl
  | some x' =>
    simp only [optB_some]
    cases sliceD x' l h <;> rfl
@[simp] theorem mNoP_ev (ρ : Env) (S : Store) : mNoP ρ S = .ok none S := Eq.trans rfl rfl
/-! the operators -/
@[simp] theorem addD_int (a b : Int) : addD (.int a) (.int b) = some (.int (a + b)) := Eq.trans rfl rfl
@[simp] theorem subD_int (a b : Int) : subD (.int a) (.int b) = some (.int (a - b)) := Eq.trans rfl rfl
@[simp] theorem negD_int (a : Int) : negD (.int a) = some (.int (-a)) := Eq.trans rfl rfl
@[simp] theorem leD_int (a b : Int) : leD (.int a) (.int b) = some (.bool (decide (a ≤ b))) := Eq.trans rfl rfl
@[simp] theorem ltD_int (a b : Int) : ltD (.int a) (.int b) = some (.bool (decide (a < b))) := Eq.trans rfl rfl
@[simp] theorem gtD_int (a b : Int) : gtD (.int a) (.int b) = some (.bool (decide (b < a))) := Eq.trans rfl rfl
@[simp] theorem geD_int (a b : Int) : geD (.int a) (.int b) = some (.bool (decide (b ≤ a))) := Eq.trans rfl rfl
/-! equality of ints, tuples, lists, None -/
mutual
def pureT : D → Bool
  | .none => true
  | .int _ => true
  | .list xs => pureTs xs
  | .tuple xs => pureTs xs
  | _ => false
def pureTs : List D → Bool
  | [] => true
  | x :: xs => pureT x && pureTs xs
end
mutual
theorem eqv_pure : ∀ a b : D, pureT a = true → pureT b = true → (PyData.eqv a b = true ↔ a = b)
  | .none, .none, _, _ => by simp [PyData.eqv]
  | .none, .int _, _, _ => by simp [PyData.eqv]
  | .none, .list _, _, _ => by simp [PyData.eqv]
  | .none, .tuple _, _, _ => by simp [PyData.eqv]
  | .int _, .none, _, _ => by simp [PyData.eqv]
  | .int i, .int j, _, _ => by simp [PyData.eqv]
  | .int _, .list _, _, _ => by simp [PyData.eqv]
  | .int _, .tuple _, _, _ => by simp [PyData.eqv]
  | .list _, .none, _, _ => by simp [PyData.eqv]
  | .list _, .int _, _, _ => by simp [PyData.eqv]
  | .list xs, .list ys, h1, h2 => by
    have := eqvs_pure xs ys (by simpa [pureT] using h1) (by simpa [pureT] using h2)
    simpa [PyData.eqv] using this
  | .list _, .tuple _, _, _ => by simp [PyData.eqv]
  | .tuple _, .none, _, _ => by simp [PyData.eqv]
  | .tuple _, .int _, _, _ => by simp [PyData.eqv]
  | .tuple _, .list _, _, _ => by simp [PyData.eqv]
  | .tuple xs, .tuple ys, h1, h2 => by
    have := eqvs_pure xs ys (by simpa [pureT] using h1) (by simpa [pureT] using h2)
    simpa [PyData.eqv] using this
  | .bool _, _, h, _ => by cases h
  | .str _, _, h, _ => by cases h
  | .dict _, _, h, _ => by cases h
  | .none, .bool _, _, h => by cases h
  | .none, .str _, _, h => by cases h
  | .none, .dict _, _, h => by cases h
  | .int _, .bool _, _, h => by cases h
  | .int _, .str _, _, h => by cases h
  | .int _, .dict _, _, h => by cases h
  | .list _, .bool _, _, h => by cases h
  | .list _, .str _, _, h => by cases h
  | .list _, .dict _, _, h => by cases h
  | .tuple _, .bool _, _, h => by cases h
  | .tuple _, .str _, _, h => by cases h
  | .tuple _, .dict _, _, h => by cases h
theorem eqvs_pure : ∀ a b : List D, pureTs a = true → pureTs b = true → (PyData.eqvAll a b = true ↔ a = b)
  | [], [], _, _ => by simp [PyData.eqvAll]
  | [], _ :: _, _, _ => by simp [PyData.eqvAll]
  | _ :: _, [], _, _ => by simp [PyData.eqvAll]
  | x :: xs, y :: ys, h1, h2 => by
    unfold pureTs at h1 h2
    simp only [Bool.and_eq_true] at h1 h2
    rw [PyData.eqvAll, Bool.and_eq_true, eqv_pure x y h1.1 h2.1, eqvs_pure xs ys h1.2 h2.2, List.cons.injEq]
end
mutual
theorem lay_pure : ∀ a : D, pureT a = true → PyData.canLay0 a = true
  | .none, _ => rfl
  | .int _, _ => rfl
  | .list xs, h => by rw [PyData.canLay0]; exact lays_pure xs (by simpa [pureT] using h)
  | .tuple xs, h => by rw [PyData.canLay0]; exact lays_pure xs (by simpa [pureT] using h)
theorem lays_pure : ∀ a : List D, pureTs a = true → PyData.canLayAll0 a = true
  | [], _ => rfl
  | x :: xs, h => by
    unfold pureTs at h
    simp only [Bool.and_eq_true] at h
    rw [PyData.canLayAll0, lay_pure x h.1, lays_pure xs h.2]; rfl
end
theorem shaped_pure {a : D} (h : pureT a = true) (hd : a.depth ≤ 64) : SeqAt.shaped a = true := by
  unfold SeqAt.shaped
  rw [lay_pure a h]
  simp [hd]
theorem eqB_pure {a b : D} (h1 : pureT a = true) (h2 : pureT b = true) (d1 : a.depth ≤ 64) (d2 : b.depth ≤ 64) : eqB a b = some (PyData.eqv a b) := by
  unfold eqB
  rw [shaped_pure h1 d1, shaped_pure h2 d2]
  simp
theorem eqD_pure {a b : D} (h1 : pureT a = true) (h2 : pureT b = true) (d1 : a.depth ≤ 64) (d2 : b.depth ≤ 64) : eqD a b = some (.bool (PyData.eqv a b)) := by
  unfold eqD; rw [eqB_pure h1 h2 d1 d2]; rfl
theorem neD_pure {a b : D} (h1 : pureT a = true) (h2 : pureT b = true) (d1 : a.depth ≤ 64) (d2 : b.depth ≤ 64) : neD a b = some (.bool (!PyData.eqv a b)) := by
  unfold neD; rw [eqB_pure h1 h2 d1 d2]; rfl
theorem eqv_int (a b : Int) : PyData.eqv (.int a) (.int b) = decide (a = b) := by
  rw [Bool.eq_iff_iff]
  simp [PyData.eqv]
@[simp] theorem eqD_int (a b : Int) : eqD (.int a) (.int b) = some (.bool (decide (a = b))) := by
  rw [eqD_pure rfl rfl (by simp [PyData.depth]) (by simp [PyData.depth]), eqv_int]
@[simp] theorem neD_int (a b : Int) : neD (.int a) (.int b) = some (.bool (!decide (a = b))) := by
  rw [neD_pure rfl rfl (by simp [PyData.depth]) (by simp [PyData.depth]), eqv_int]
/-! places -/
theorem ixT (xs : List D) (k : Nat) (h : k < xs.length) : ixD (.tuple xs) (.int k) = xs[k]? := by
  have : (k : Int) < (xs.length : Int) := by omega
  simp [ixD, atD, L2.ixN, this]
theorem ixL (xs : List D) (k : Nat) (h : k < xs.length) : ixD (.list xs) (.int k) = xs[k]? := by
  have : (k : Int) < (xs.length : Int) := by omega
  simp [ixD, atD, L2.ixN, this]
theorem ixT_lit (xs : List D) (i : Int) (d : D) (h : 0 ≤ i ∧ xs[i.toNat]? = some d) : ixD (.tuple xs) (.int i) = some d := by
  obtain ⟨h0, h1⟩ := h
  have hl := (List.getElem?_eq_some_iff.mp h1).1
  have := ixT xs i.toNat hl
  rw [Int.toNat_of_nonneg h0] at this
  rw [this, h1]
theorem ixL_lit (xs : List D) (i : Int) (d : D) (h : 0 ≤ i ∧ xs[i.toNat]? = some d) : ixD (.list xs) (.int i) = some d := by
  obtain ⟨h0, h1⟩ := h
  have hl := (List.getElem?_eq_some_iff.mp h1).1
  have := ixL xs i.toNat hl
  rw [Int.toNat_of_nonneg h0] at this
  rw [this, h1]
@[simp] theorem ixT0 (a : D) (r : List D) : ixD (.tuple (a :: r)) (.int 0) = some a := ixT_lit _ _ _ ⟨by decide, rfl⟩
@[simp] theorem ixT1 (a b : D) (r : List D) : ixD (.tuple (a :: b :: r)) (.int 1) = some b := ixT_lit _ _ _ ⟨by decide, rfl⟩
@[simp] theorem ixT2 (a b c : D) (r : List D) : ixD (.tuple (a :: b :: c :: r)) (.int 2) = some c := ixT_lit _ _ _ ⟨by decide, rfl⟩
@[simp] theorem ixT3 (a b c d : D) (r : List D) : ixD (.tuple (a :: b :: c :: d :: r)) (.int 3) = some d := ixT_lit _ _ _ ⟨by decide, rfl⟩
@[simp] theorem ixT4 (a b c d e : D) (r : List D) : ixD (.tuple (a :: b :: c :: d :: e :: r)) (.int 4) = some e := ixT_lit _ _ _ ⟨by decide, rfl⟩
@[simp] theorem ixT5 (a b c d e f : D) (r : List D) : ixD (.tuple (a :: b :: c :: d :: e :: f :: r)) (.int 5) = some f := ixT_lit _ _ _ ⟨by decide, rfl⟩
@[simp] theorem ixL0 (a : D) (r : List D) : ixD (.list (a :: r)) (.int 0) = some a := ixL_lit _ _ _ ⟨by decide, rfl⟩
@[simp] theorem ixL1 (a b : D) (r : List D) : ixD (.list (a :: b :: r)) (.int 1) = some b := ixL_lit _ _ _ ⟨by decide, rfl⟩
@[simp] theorem ixL2 (a b c : D) (r : List D) : ixD (.list (a :: b :: c :: r)) (.int 2) = some c := ixL_lit _ _ _ ⟨by decide, rfl⟩
@[simp] theorem ixL3 (a b c d : D) (r : List D) : ixD (.list (a :: b :: c :: d :: r)) (.int 3) = some d := ixL_lit _ _ _ ⟨by decide, rfl⟩
@[simp] theorem intD_int (i : Int) : intD [.int i] = some (.int i) := Eq.trans rfl rfl
@[simp] theorem lenD_tup (xs : List D) : lenD [.tuple xs] = some (.int xs.length) := Eq.trans rfl rfl
@[simp] theorem lenD_lst (xs : List D) : lenD [.list xs] = some (.int xs.length) := Eq.trans rfl rfl
@[simp] theorem minD_int (a b : Int) : minD [.int a, .int b] = some (.int (min a b)) := Eq.trans rfl rfl
@[simp] theorem maxD_int (a b : Int) : maxD [.int a, .int b] = some (.int (max a b)) := Eq.trans rfl rfl
@[simp] theorem tupleD_lst (xs : List D) : tupleD [.list xs] = some (.tuple xs) := Eq.trans rfl rfl
@[simp] theorem tupleD_tup (xs : List D) : tupleD [.tuple xs] = some (.tuple xs) := Eq.trans rfl rfl
@[simp] theorem listD_lst (xs : List D) : listD [.list xs] = some xs := Eq.trans rfl rfl
@[simp] theorem listD_tup (xs : List D) : listD [.tuple xs] = some xs := Eq.trans rfl rfl
@[simp] theorem itD_lst (xs : List D) : itD (.list xs) = some xs := Eq.trans rfl rfl
@[simp] theorem itD_tup (xs : List D) : itD (.tuple xs) = some xs := Eq.trans rfl rfl
@[simp] theorem truD_bool (b : Bool) : truD (.bool b) = some b := Eq.trans rfl rfl
@[simp] theorem truD_none : truD .none = some false := Eq.trans rfl rfl
@[simp] theorem truD_int (i : Int) : truD (.int i) = some (i != 0) := Eq.trans rfl rfl
@[simp] theorem isT_ev (T : Ty) (d : D) : isT T d = some (.bool (T.has d)) := Eq.trans rfl rfl
theorem addD_tup {xs ys : List D} (h : xs.length + ys.length ≤ sizeLine) : addD (.tuple xs) (.tuple ys) = some (.tuple (xs ++ ys)) := if_pos h
theorem addD_lst {xs ys : List D} (h : xs.length + ys.length ≤ sizeLine) : addD (.list xs) (.list ys) = some (.list (xs ++ ys)) := if_pos h
theorem mulD_int {a b : Int} (h : mulOk a b = true) : mulD (.int a) (.int b) = some (.int (a * b)) := if_pos h
theorem mulOk_r {a b : Int} (h : -(2 ^ 64) < b ∧ b < 2 ^ 64) : mulOk a b = true := by
  unfold mulOk
  rw [decide_eq_true (p := -(2 ^ 64) < b ∧ b < 2 ^ 64) h]
  simp
theorem mulOk_l {a b : Int} (h : -(2 ^ 64) < a ∧ a < 2 ^ 64) : mulOk a b = true := by
  unfold mulOk
  rw [decide_eq_true (p := -(2 ^ 64) < a ∧ a < 2 ^ 64) h]
  simp
theorem modD_int {a b : Int} (h : 0 < b) : modD (.int a) (.int b) = some (.int (a % b)) := if_pos h
theorem divD_int {a b : Int} (h : 0 < b) (h2 : b < 2 ^ 4096) : divD (.int a) (.int b) = some (.int (a / b)) := by
  have : b.natAbs.log2 < 9000 := by
    have h3 : b.natAbs < 2 ^ 4096 := by omega
    have h4 : b.natAbs ≠ 0 := by omega
    have := (Nat.log2_lt h4).mpr h3
    omega
  exact if_pos (by simp [h, this])
@[simp] theorem isND_ev (a : D) : isND a .none = some (.bool (isNon a)) := Eq.trans rfl rfl
@[simp] theorem notND_ev (a : D) : notND a .none = some (.bool (!isNon a)) := Eq.trans rfl rfl
@[simp] theorem isNon_none : isNon .none = true := Eq.trans rfl rfl
@[simp] theorem isNon_bool (b : Bool) : isNon (.bool b) = false := Eq.trans rfl rfl
@[simp] theorem isNon_int (i : Int) : isNon (.int i) = false := Eq.trans rfl rfl
@[simp] theorem isNon_str (x : Str) : isNon (.str x) = false := Eq.trans rfl rfl
@[simp] theorem isNon_tup (xs : List D) : isNon (.tuple xs) = false := Eq.trans rfl rfl
@[simp] theorem isNon_lst (xs : List D) : isNon (.list xs) = false := Eq.trans rfl rfl
@[simp] theorem isBD_ev (a b : Bool) : isBD (.bool a) (.bool b) = some (.bool (decide (a = b))) := Eq.trans rfl rfl
@[simp] theorem notBD_ev (a b : Bool) : notBD (.bool a) (.bool b) = some (.bool (!decide (a = b))) := Eq.trans rfl rfl
theorem pureTs_map {α : Type} {g : α → D} (h : ∀ x, pureT (g x) = true) : ∀ xs : List α, pureTs (xs.map g) = true
  | [] => rfl
  | x :: xs => by rw [List.map_cons, pureTs, h x, pureTs_map h xs]; rfl
theorem depthAll_le {k : Nat} : ∀ {xs : List D}, (∀ x ∈ xs, x.depth ≤ k) → PyData.depthAll xs ≤ k
  | [], _ => by simp [PyData.depthAll]
  | x :: xs, h => by
    rw [PyData.depthAll]
    have h1 := h x List.mem_cons_self
    have h2 := depthAll_le (xs := xs) fun y hy => h y (List.mem_cons_of_mem _ hy)
    omega
theorem rangeD_map : ∀ (n : Nat) (lo : Int), rangeD lo n = (List.range n).map fun k => .int (lo + (k : Int))
  | 0, _ => rfl
  | n + 1, lo => by
    rw [List.range_succ_eq_map, List.map_cons, List.map_map, rangeD, rangeD_map n]
    congr 1
    · simp
    · refine List.map_congr_left fun k _ => ?_
      show PyData.int _ = PyData.int _
      congr 1
      have : ((k + 1 : Nat) : Int) = (k : Int) + 1 := by omega
      rw [this]; omega
theorem range1_nat {j : Int} (h0 : 0 ≤ j) (h : j ≤ 2 ^ 40) : range1 [.int j] = some ((List.range j.toNat).map fun k => .int (k : Int)) := by
  have hok : okR j = true := by unfold okR; simp; omega
  unfold range1
  simp only [hok, if_true, rangeD_map]
  congr 2
  funext k
  simp
theorem range2_nat {i j : Int} (h0 : -(2 ^ 40) ≤ i ∧ i ≤ 2 ^ 40) (h : -(2 ^ 40) ≤ j ∧ j ≤ 2 ^ 40) : range2 [.int i, .int j] = some ((List.range (j - i).toNat).map fun k => .int (i + (k : Int))) := by
  have h1 : okR i = true := by unfold okR; simp; omega
  have h2 : okR j = true := by unfold okR; simp; omega
  unfold range2
  simp only [h1, h2, rangeD_map, Bool.and_self, if_true]
mutual
/-- tuples, numbers, truth values, None -/
def okS : D → Bool
  | .none => true
  | .bool _ => true
  | .int _ => true
  | .tuple xs => decide (xs.length ≤ 100000) && okSs xs
  | _ => false
def okSs : List D → Bool
  | [] => true
  | x :: xs => okS x && okSs xs
end
theorem okSs_get : ∀ {xs : List D} {i : Nat} {x : D}, okSs xs = true → xs[i]? = some x → okS x = true
  | [], _, _, _, e => by simp at e
  | y :: ys, 0, x, h, e => by
    unfold okSs at h; simp only [Bool.and_eq_true] at h
    simp at e; subst e; exact h.1
  | y :: ys, i + 1, x, h, e => by
    unfold okSs at h; simp only [Bool.and_eq_true] at h
    exact okSs_get h.2 (by simpa using e)
theorem okSs_of : ∀ {xs : List D}, (∀ x ∈ xs, okS x = true) → okSs xs = true
  | [], _ => rfl
  | x :: xs, h => by rw [okSs, h x List.mem_cons_self, okSs_of fun y hy => h y (List.mem_cons_of_mem _ hy)]; rfl
theorem depth_get : ∀ {xs : List D} {i : Nat} {x : D}, xs[i]? = some x → x.depth ≤ PyData.depthAll xs
  | [], _, _, e => by simp at e
  | y :: ys, 0, x, e => by simp at e; subst e; rw [PyData.depthAll]; omega
  | y :: ys, i + 1, x, e => by
    have := depth_get (xs := ys) (i := i) (by simpa using e)
    rw [PyData.depthAll]; omega
theorem boolsD_const {α : Type} : ∀ xs : List α, boolsD (xs.map fun _ => .bool true) = some (xs.map fun _ => true)
  | [] => rfl
  | x :: xs => by show (boolsD (xs.map _)).map _ = _; rw [boolsD_const xs]; rfl
theorem allD1_const {α : Type} (xs : List α) : allD1 [.list (xs.map fun _ => .bool true)] = some (.bool true) := by
  show (boolsD _).map _ = _
  rw [boolsD_const]
  simp
theorem bools_map {α : Type} (f : α → Bool) : ∀ xs : List α, boolsD (xs.map fun x => .bool (f x)) = some (xs.map f)
  | [] => rfl
  | x :: xs => by show (boolsD (xs.map _)).map _ = _; rw [bools_map f xs]; rfl
theorem allD1_map {α : Type} (f : α → Bool) (xs : List α) : allD1 [.list (xs.map fun x => .bool (f x))] = some (.bool (xs.all f)) := by
  show (boolsD _).map _ = _
  rw [bools_map]
  simp [List.all_map, Function.comp_def]
def optS (o : Option Store) (ρ : Env) : Out := match o with
  | some S => .nx ρ S
  | none => .no
@[simp] theorem optS_some (S : Store) (ρ : Env) : optS (some S) ρ = .nx ρ S := Eq.trans rfl rfl
@[simp] theorem mPut_ev (o i v : EM) (ρ : Env) (S : Store) : mPut o i v ρ S = (v ρ S).out ρ fun rv S1 => (o ρ S1).out ρ fun ro S2 => (i ρ S2).out ρ fun ri S3 => optS (putR S3 ro ri rv) ρ := by
  unfold mPut
  congr 1
def optE (o : Option Store) : Res R := match o with
  | some S => .ok (.d .none) S
  | none => .no
@[simp] theorem optE_some (S : Store) : optE (some S) = .ok (.d .none) S := Eq.trans rfl rfl
@[simp] theorem mApp_ev (o v : EM) (ρ : Env) (S : Store) : mApp o v ρ S = (o ρ S).bind fun ro S1 => if isL S1 ro = true then (v ρ S1).bind fun rv S2 => optE (appR S2 ro rv) else .no := by
  unfold mApp
  congr 1; funext ro S1
  cases isL S1 ro <;> rfl
@[simp] theorem mDic0_ev (ρ : Env) (S : Store) : mDic0 ρ S = .ok (.ref S.length) (S ++ [.dic []]) := Eq.trans rfl rfl
def sitR : R → Store → Res (List D)
  | .ref n, S => match S[n]? with
    | some (.dic kvs) => optB (itemsD kvs) fun zs => .ok zs S
    | _ => .no
  | .d _, _ => .no
theorem sitR_ref {n : Nat} {S : Store} {kvs : List (D × R)} {zs : List D} (h : S[n]? = some (.dic kvs)) (hz : itemsD kvs = some zs) : sitR (.ref n) S = .ok zs S := by
  unfold sitR; simp [h, hz]
@[simp] theorem mSortItems_ev (d : EM) (ρ : Env) (S : Store) : mSortItems d ρ S = (d ρ S).bind sitR := by
  unfold mSortItems
  congr 1; funext r S1
  cases r with
  | d _ => rfl
  | ref n =>
    unfold sitR
    simp only
    cases S1[n]? with
    | none => rfl
    | some c =>
      cases c with
      | dic kvs =>
        show Res.opt (itemsD kvs) S1 = optB (itemsD kvs) fun zs => .ok zs S1
        cases itemsD kvs <;> rfl
      | _ => rfl
theorem insLe_map {α β : Type} {le : β → β → Bool} {g : α → β} (a : α) : ∀ l : List α, insLe le (g a) (l.map g) = (insLe (fun x y => le (g x) (g y)) a l).map g
  | [] => rfl
  | b :: r => by
    show (if le (g a) (g b) then _ else _) = (if le (g a) (g b) then _ else _ : List α).map g
    split
    · rfl
    · show g b :: insLe le (g a) (r.map g) = _
      rw [insLe_map a r]; rfl
theorem sortBy_map {α β : Type} {le : β → β → Bool} {g : α → β} : ∀ l : List α, sortBy le (l.map g) = (sortBy (fun x y => le (g x) (g y)) l).map g
  | [] => rfl
  | a :: l => by
    show insLe le (g a) (sortBy le (l.map g)) = (insLe _ a (sortBy _ l)).map g
    rw [sortBy_map l, insLe_map]
theorem insLe_perm {α : Type} {le : α → α → Bool} (a : α) : ∀ l : List α, (insLe le a l).Perm (a :: l)
  | [] => List.Perm.refl _
  | b :: r => by
    show (if le a b then a :: b :: r else b :: insLe le a r).Perm _
    split
    · exact List.Perm.refl _
    · exact ((insLe_perm a r).cons b).trans (List.Perm.swap a b r)
theorem sortBy_perm {α : Type} {le : α → α → Bool} : ∀ l : List α, (sortBy le l).Perm l
  | [] => List.Perm.refl _
  | a :: l => (insLe_perm a _).trans ((sortBy_perm l).cons a)
theorem sortBy_sorted {α : Type} {le : α → α → Bool} (tr : ∀ a b c, le a b = true → le b c = true → le a c = true) (to : ∀ a b, (le a b || le b a) = true) (l : List α) : (sortBy le l).Pairwise fun a b => le a b = true := by
  rw [sortBy_eq tr to]
  exact List.pairwise_mergeSort tr to l
theorem cut1 (xs : List D) : cutD xs (some 1) none = xs.drop 1 := by
  unfold cutD
  have e1 : HT.sIx xs.length 0 (some 1) = min 1 xs.length := by
    unfold HT.sIx
    simp
  have e2 : HT.sIx xs.length xs.length none = xs.length := rfl
  rw [e1, e2]
  cases xs with
  | nil => rfl
  | cons x r =>
    have : min 1 (x :: r).length = 1 := by simp
    rw [this]
    simp
theorem zipD_map {α β : Type} (f : α → D) (g : β → D) : ∀ (xs : List α) (ys : List β), zipD (xs.map f) (ys.map g) = (xs.zip ys).map fun p => .tuple [f p.1, g p.2]
  | [], _ => by simp [zipD]
  | _ :: _, [] => by simp [zipD]
  | x :: xs, y :: ys => by simp [zipD, zipD_map f g xs ys]
theorem mExt_at {i n : Nat} {l : IM} {ρ : Env} {S S1 : Store} {ds xs : List D} (h : ρ[i]? = some (some (.ref n))) (hl : l ρ S = .ok ds S1) (hS : S1[n]? = some (.lst xs)) (hz : xs.length + ds.length ≤ sizeLine) : mExt i l ρ S = .nx ρ (S1.set n (.lst (xs ++ ds))) := by
  unfold mExt
  simp [h, hl, hS, hz]
theorem enumD_cons (i : Nat) (x : D) (xs : List D) : enumD i (x :: xs) = .tuple [.int i, x] :: enumD (i + 1) xs := rfl
theorem enum1_tup (xs : List D) : enum1 [.tuple xs] = some (enumD 0 xs) := rfl
theorem enum1_lst (xs : List D) : enum1 [.list xs] = some (enumD 0 xs) := rfl
end Pi

set_option Elab.async false
set_option linter.all false
set_option maxRecDepth 100000
/-! PiFr: what a loop leaves as it was. -/
namespace Pi
open PySem
/-- all names but some stay -/
structure Fr (is : List Nat) (ρ ρ' : Env) : Prop where
  len : ρ'.length = ρ.length
  get : ∀ i, i ∉ is → ρ'[i]? = ρ[i]?
theorem Fr.refl (is : List Nat) (ρ : Env) : Fr is ρ ρ := ⟨rfl, fun _ _ => rfl⟩
theorem Fr.trans {is : List Nat} {ρ ρ1 ρ2 : Env} (h1 : Fr is ρ ρ1) (h2 : Fr is ρ1 ρ2) : Fr is ρ ρ2 := ⟨h2.len.trans h1.len, fun i hi => (h2.get i hi).trans (h1.get i hi)⟩
theorem Fr.set {is : List Nat} {ρ ρ' : Env} (h : Fr is ρ ρ') (i : Nat) (v : Option R) (hi : i ∈ is := by decide) : Fr is ρ (ρ'.set i v) :=
  ⟨by rw [List.length_set]; exact h.len, fun j hj => by rw [List.getElem?_set_ne (show i ≠ j from by intro e; subst e; exact hj hi)]; exact h.get j hj⟩
theorem Fr.mono {is js : List Nat} {ρ ρ' : Env} (h : Fr is ρ ρ') (hs : ∀ i ∈ is, i ∈ js := by decide) : Fr js ρ ρ' := ⟨h.len, fun i hi => h.get i fun q => hi (hs i q)⟩
/-! one step -/
theorem seq_of {a b : SM} {ρ ρ1 : Env} {S S1 : Store} {o : Out} (h : a ρ S = .nx ρ1 S1) (k : b ρ1 S1 = o) : mSeq a b ρ S = o := by rw [mSeq_ev, h, seq_nx]; exact k
theorem forN_of {i : Nat} {b : SM} {d : D} {ds : List D} {ρ ρ1 : Env} {S S1 : Store} {o : Out} (h : b (ρ.set i (some (.d d))) S = .nx ρ1 S1) (k : forLoop (gN i) b ds ρ1 S1 = o) : forLoop (gN i) b (d :: ds) ρ S = o := by
  rw [forLoop_cons]
  simp only [gN_ev, optO_some, h, seq_nx, k]
theorem forG_of {t : GM} {b : SM} {d : D} {ds : List D} {ρ ρ0 ρ1 : Env} {S S0 S1 : Store} {o : Out} (ht : t (.d d) ρ S = some (ρ0, S0)) (h : b ρ0 S0 = .nx ρ1 S1) (k : forLoop t b ds ρ1 S1 = o) : forLoop t b (d :: ds) ρ S = o := by
  rw [forLoop_cons]
  simp only [ht, optO_some, h, seq_nx, k]
theorem mFor_of {it : IM} {t : GM} {b : SM} {ds : List D} {ρ : Env} {S S1 : Store} {o : Out} (h : it ρ S = .ok ds S1) (k : forLoop t b ds ρ S1 = o) : mFor it t b ρ S = o := by
  rw [mFor_ev, h, Res.out_ok]; exact k
theorem while_of {c : TM} {b : SM} {n : Nat} {ρ ρ1 : Env} {S S1 S2 : Store} {o : Out} (hc : c ρ S = .ok true S1) (h : b ρ S1 = .nx ρ1 S2) (k : whileLoop c b n ρ1 S2 = o) : whileLoop c b (n + 1) ρ S = o := by
  rw [whileLoop_succ, hc]
  simp only [Res.out_ok, if_true, h, seq_nx, k]
theorem while_end {c : TM} {b : SM} {n : Nat} {ρ : Env} {S S1 : Store} (hc : c ρ S = .ok false S1) : whileLoop c b (n + 1) ρ S = .nx ρ S1 := by
  rw [whileLoop_succ, hc]
  simp only [Res.out_ok, Bool.false_eq_true, if_false]
theorem if_t {c : TM} {a b : SM} {ρ : Env} {S S1 : Store} {o : Out} (hc : c ρ S = .ok true S1) (k : a ρ S1 = o) : mIf c a b ρ S = o := by rw [mIf_ev, hc]; simpa using k
theorem if_f {c : TM} {a b : SM} {ρ : Env} {S S1 : Store} {o : Out} (hc : c ρ S = .ok false S1) (k : b ρ S1 = o) : mIf c a b ρ S = o := by rw [mIf_ev, hc]; simpa using k
theorem mWhile_ev' (n : Nat) (c : TM) (b : SM) (ρ : Env) (S : Store) : mWhile n c b ρ S = whileLoop c b n ρ S := rfl
theorem set_get {ρ : Env} {n i : Nat} {v : Option R} (hl : ρ.length = n) (hi : i < n) : (ρ.set i v)[i]? = some v := List.getElem?_set_self (by rw [hl]; exact hi)
theorem set_old {ρ : Env} {i j : Nat} {v : Option R} {w : Option (Option R)} (h : ρ[j]? = w) (hij : i ≠ j := by decide) : (ρ.set i v)[j]? = w := by rw [List.getElem?_set_ne hij]; exact h
theorem onlyL_of {g : D → D → Option D} {a b : D} {zs : List D} (h : g a b = some (.list zs)) : onlyL g a b = some zs := by
  unfold onlyL
  rw [h]
theorem rep_map {n : Nat} (k : Nat) : List.replicate n (PyData.int k) = (List.replicate n k).map fun x : Nat => PyData.int x := by simp
theorem downD_map : ∀ (n : Nat) (hi : Int), downD hi n = (List.range n).map fun k : Nat => .int (hi - (k : Int))
  | 0, _ => rfl
  | n + 1, hi => by
    rw [List.range_succ_eq_map, List.map_cons, List.map_map, downD, downD_map n]
    congr 1
    · simp
    · refine List.map_congr_left fun k _ => ?_
      show PyData.int _ = PyData.int _
      congr 1
      have : ((k + 1 : Nat) : Int) = (k : Int) + 1 := by omega
      rw [this]; omega
end Pi

set_option Elab.async false
set_option linter.all false
set_option maxRecDepth 100000
/-! PiEv2: more mirrors run by simp: instances, dicts. -/
namespace Pi
open PySem
def optQ (o : Option R) (S : Store) : Res R := match o with
  | some r => .ok r S
  | none => .no
@[simp] theorem optQ_some (r : R) (S : Store) : optQ (some r) S = .ok r S := Eq.trans rfl rfl
@[simp] theorem optQ_none (S : Store) : optQ none S = .no := Eq.trans rfl rfl
def optP {α : Type} (o : Option (α × Store)) : Res α := match o with
  | some x => .ok x.1 x.2
  | none => .no
@[simp] theorem optP_some {α : Type} (x : α × Store) : optP (some x) = .ok x.1 x.2 := Eq.trans rfl rfl
section
variable (ρ : Env) (S : Store) (a b c o d k v : EM) (am : AM) (cl : String) (f : Str)
@[simp] theorem mFld_ev : mFld cl f o ρ S = (o ρ S).bind fun r S1 => optQ (fldR S1 cl f r) S1 := by
  unfold mFld
  congr 1
@[simp] theorem mSetF_ev : mSetF cl f o v ρ S = (v ρ S).out ρ fun rv S1 => (o ρ S1).out ρ fun ro S2 => optS (setF S2 cl f ro rv) ρ := by
  unfold mSetF
  congr 1
@[simp] theorem mMeth_ev (m : Str) (F : Fn) : mMeth cl m F o am ρ S = (o ρ S).bind fun r S1 => if clsR S1 cl m r = true then (am ρ S1).bind fun rs S2 => F (r :: rs) S2 else .no := Eq.trans rfl rfl
def endMk (n : Nat) : R → Store → Res R
  | .d .none, S => .ok (.ref n) S
  | _, _ => .no
@[simp] theorem endMk_none (n : Nat) (S : Store) : endMk n (.d .none) S = .ok (.ref n) S := Eq.trans rfl rfl
@[simp] theorem mMake_ev (F : Fn) : mMake cl F am ρ S = (am ρ S).bind fun rs S1 => (F (.ref S1.length :: rs) (S1 ++ [.obj cl []])).bind (endMk S1.length) := by
  unfold mMake
  congr 1; funext rs S1
  congr 1; funext q S2
  cases q with
  | ref _ => rfl
  | d x => cases x <;> rfl
@[simp] theorem mAsgR_ev (gs : List GM) : mAsgR gs am ρ S = (am ρ S).out ρ fun rs S1 => if rs.length ≤ sizeLine then optG (gAllR gs rs ρ S1) else .no := by
  unfold mAsgR
  congr 1
@[simp] theorem gAllR_nil : gAllR [] [] ρ S = some (ρ, S) := Eq.trans rfl rfl
@[simp] theorem gAllR_cons (g : GM) (gs : List GM) (r : R) (rs : List R) : gAllR (g :: gs) (r :: rs) ρ S = (g r ρ S).bind fun x => gAllR gs rs x.1 x.2 := by
  show (match g r ρ S with | some (ρ1, S1) => gAllR gs rs ρ1 S1 | none => none) = _
  cases g r ρ S <;> rfl
theorem gFld_of {r ro : R} {S1 S2 : Store} (h : o ρ S = .ok ro S1) (h2 : setF S1 cl f ro r = some S2) : gFld cl f o r ρ S = some (ρ, S2) := by
  unfold gFld
  rw [h]
  simp only [h2]
@[simp] theorem mDGet_ev : mDGet d k ρ S = (d ρ S).bind fun rd S1 => (k ρ S1).bind fun rk S2 => optB (rdR rk) fun kd => optB (dlook S2 rd kd) fun o => optQ o S2 := by
  unfold mDGet
  congr 1; funext rd S1
  congr 1; funext rk S2
  cases rdR rk with
  | none => rfl
  | some kd =>
    simp only [optB_some]
    cases dlook S2 rd kd with
    | none => rfl
    | some o => cases o <;> rfl
@[simp] theorem mDIn_ev (neg : Bool) : mDIn neg k d ρ S = (k ρ S).bind fun rk S1 => (d ρ S1).bind fun rd S2 => optB (rdR rk) fun kd => optB (dlook S2 rd kd) fun o => .ok (.d (.bool (o.isSome != neg))) S2 := by
  unfold mDIn
  congr 1; funext rk S1
  congr 1; funext rd S2
  cases rdR rk with
  | none => rfl
  | some kd =>
    simp only [optB_some]
    cases dlook S2 rd kd <;> rfl
@[simp] theorem mDGet1_ev : mDGet1 d k ρ S = (d ρ S).bind fun rd S1 => if isDic S1 rd = true then (k ρ S1).bind fun rk S2 => optB (rdR rk) fun kd => optB (dlook S2 rd kd) fun o => .ok (o.getD (.d .none)) S2 else .no := by
  unfold mDGet1
  congr 1; funext rd S1
  congr 1
  congr 1; funext rk S2
  cases rdR rk with
  | none => rfl
  | some kd =>
    simp only [optB_some]
    cases dlook S2 rd kd <;> rfl
@[simp] theorem mDicH0_ev : mDicH0 ρ S = .ok (.ref S.length) (S ++ [.dih []]) := Eq.trans rfl rfl
@[simp] theorem mPutH_ev (i : EM) : mPutH o i v ρ S = (v ρ S).out ρ fun rv S1 => (o ρ S1).out ρ fun ro S2 => (i ρ S2).out ρ fun ri S3 => optS (putH S3 ro ri rv) ρ := by
  unfold mPutH
  congr 1
@[simp] theorem mDPop_ev : mDPop d k ρ S = (d ρ S).bind fun rd S1 => if isDic S1 rd = true then (k ρ S1).bind fun rk S2 => optB (rdR rk) fun kd => optP (popD S2 rd kd) else .no := by
  unfold mDPop
  congr 1; funext rd S1
  congr 1
  congr 1; funext rk S2
  cases rdR rk with
  | none => rfl
  | some kd =>
    simp only [optB_some]
    cases popD S2 rd kd <;> rfl
@[simp] theorem mDLen_ev : mDLen d ρ S = (d ρ S).bind fun r S1 => optB (lenDic S1 r) fun i => .ok (.d (.int i)) S1 := by
  unfold mDLen
  congr 1; funext r S1
  cases lenDic S1 r <;> rfl
/-- while a dict is locked -/
theorem lock_of {l : IM} {n : Nat} {S0 S1 S2 S3 : Store} {ys : List D} (h : d ρ S = .ok (.ref n) S0) (h1 : lockS S n = some S1) (h2 : l ρ S1 = .ok ys S2) (h3 : unlockS S2 n = some S3) : mLockL d l ρ S = .ok ys S3 := by
  unfold mLockL
  rw [h]
  simp only [h1, h2, noEx, h3]
theorem itDK_of {items : Bool} {n : Nat} {S1 : Store} {kvs : List (D × R)} {zs : List D} (h : d ρ S = .ok (.ref n) S1) (h1 : S1[n]? = some (.lck kvs)) (h2 : dkItems items kvs = some zs) : mItDK items d ρ S = .ok zs S1 := by
  unfold mItDK
  rw [h]
  simp only [Res.bind_ok, h1, h2, Res.opt]
theorem sortH_of {n : Nat} {S1 : Store} {kvs : List (D × R)} {zs : List D} (h : d ρ S = .ok (.ref n) S1) (h1 : S1[n]? = some (.dih kvs)) (h2 : itemsH kvs = some zs) : mSortItemsH d ρ S = .ok zs S1 := by
  unfold mSortItemsH
  rw [h]
  simp only [Res.bind_ok, h1, h2, Res.opt]
theorem sortK_of {n : Nat} {S1 : Store} {kvs : List (D × R)} {zs : List D} (h : d ρ S = .ok (.ref n) S1) (h1 : S1[n]? = some (.dih kvs)) (h2 : keysSort kvs = some zs) : mSortKeysH d ρ S = .ok zs S1 := by
  unfold mSortKeysH
  rw [h]
  simp only [Res.bind_ok, h1, h2, Res.opt]
theorem sortI_of {n : Nat} {S1 : Store} {kvs : List (D × R)} {zs : List D} (h : d ρ S = .ok (.ref n) S1) (h1 : S1[n]? = some (.dic kvs)) (h2 : itemsD kvs = some zs) : mSortItems d ρ S = .ok zs S1 := by
  unfold mSortItems
  rw [h]
  simp only [Res.bind_ok, h1, h2, Res.opt]
theorem listI_of {n : Nat} {S1 : Store} {kvs : List (D × R)} {zs : List D} (h : d ρ S = .ok (.ref n) S1) (h1 : S1[n]? = some (.dic kvs)) (hl : kvs.length < 1000000) (h2 : pairsR kvs = some zs) : mListItems d ρ S = .ok zs S1 := by
  unfold mListItems
  rw [h]
  simp only [Res.bind_ok, h1, h2, Res.opt, hl, if_true]
theorem mergeH_of {n m : Nat} {S1 S2 : Store} {xs ys : List (D × R)} (h : a ρ S = .ok (.ref n) S1) (h1 : S1[n]? = some (.dih xs)) (hx : hashOk xs = true) (h2 : b ρ S1 = .ok (.ref m) S2) (h3 : S2[m]? = some (.dih ys)) (hy : (xs ≠ [] ∨ hashOk ys = true) ∧ xs.length + ys.length < 1000000) :
    mMergeH a b ρ S = .ok (.ref S2.length) (S2 ++ [.dih (mergeKv xs ys)]) := by
  unfold mMergeH
  rw [h]
  simp only [Res.bind_ok, h1, hx, if_true, h2, h3]
  rw [if_pos hy]
theorem dictK_of {r : R} {S1 : Store} {x : D} {kvs : List (D × R)} (h : a ρ S = .ok r S1) (h1 : rd S1 r = some x) (h2 : dictK x = some kvs) : mDictK a ρ S = .ok (.ref S1.length) (S1 ++ [.dic kvs]) := by
  unfold mDictK
  rw [h]
  simp only [Res.bind_ok, h1, h2]
theorem dictH_of {r : R} {S1 : Store} {x : D} {kvs : List (D × R)} (h : a ρ S = .ok r S1) (h1 : rdR r = some x) (h2 : dictH x = some kvs) : mDictH a ρ S = .ok (.ref S1.length) (S1 ++ [.dih kvs]) := by
  unfold mDictH
  rw [h]
  simp only [Res.bind_ok, h1, h2]
theorem frzR_of {n : Nat} {S1 : Store} {xs : List D} (h : a ρ S = .ok (.ref n) S1) (h1 : S1[n]? = some (.lst xs)) : mFrzR a ρ S = .ok (.d (.list xs)) (S1.set n .gone) := by
  unfold mFrzR
  rw [h]
  simp only [Res.bind_ok, h1]
theorem fld_at {n : Nat} {fs : List (Str × R)} {r : R} (h : S[n]? = some (.obj cl fs)) (h1 : fs.lookup f = some r) : fldR S cl f (.ref n) = some r := by
  unfold fldR
  simp only [h, if_true, h1]
theorem setF_at {n : Nat} {fs : List (Str × R)} {r : R} (h : S[n]? = some (.obj cl fs)) (h1 : fs.length < 1000) : setF S cl f (.ref n) r = some (S.set n (.obj cl (putFs f r fs))) := by
  unfold setF
  simp only [h, true_and, h1, if_true]
theorem clsR_at {m : Str} {n : Nat} {fs : List (Str × R)} (h : S[n]? = some (.obj cl fs)) (h1 : fs.lookup m = none) : clsR S cl m (.ref n) = true := by
  unfold clsR
  simp [h, h1]
theorem dlook_dih {n : Nat} {kvs : List (D × R)} {x : D} (h : S[n]? = some (.dih kvs)) (hk : (keyH x).isSome = true) : dlook S (.ref n) x = some (getKv kvs x) := by
  unfold dlook dicAt keyOk
  simp only [h, hk, if_true]
theorem dlook_dic {n : Nat} {kvs : List (D × R)} {x : D} (h : S[n]? = some (.dic kvs)) (hk : (keyOf x).isSome = true) : dlook S (.ref n) x = some (getKv kvs x) := by
  unfold dlook dicAt keyOk
  simp only [h, Bool.false_eq_true, if_false, hk, if_true]
theorem dlook_lck {n : Nat} {kvs : List (D × R)} {x : D} (h : S[n]? = some (.lck kvs)) (hk : (keyOf x).isSome = true) : dlook S (.ref n) x = some (getKv kvs x) := by
  unfold dlook dicAt keyOk
  simp only [h, Bool.false_eq_true, if_false, hk, if_true]
theorem isDic_dih {n : Nat} {kvs : List (D × R)} (h : S[n]? = some (.dih kvs)) : isDic S (.ref n) = true := by
  unfold isDic dicAt
  simp only [h, Option.isSome_some]
theorem isDic_dic {n : Nat} {kvs : List (D × R)} (h : S[n]? = some (.dic kvs)) : isDic S (.ref n) = true := by
  unfold isDic dicAt
  simp only [h, Option.isSome_some]
theorem putH_at {n : Nat} {kvs : List (D × R)} {x : D} {r : R} (h : S[n]? = some (.dih kvs)) (hk : (keyH x).isSome = true) (hl : kvs.length < sizeLine) : putH S (.ref n) (.d x) r = some (S.set n (.dih (putKv kvs x r))) := by
  unfold putH
  simp only [h, hk, hl, true_and, if_true]
theorem popH_at {n : Nat} {kvs : List (D × R)} {x : D} {r : R} (h : S[n]? = some (.dih kvs)) (hk : (keyH x).isSome = true) (hg : getKv kvs x = some r) : popD S (.ref n) x = some (r, S.set n (.dih (dropKv kvs x))) := by
  unfold popD
  simp only [h, hk, hg, if_true, Option.map_some]
theorem popK_at {n : Nat} {kvs : List (D × R)} {x : D} {r : R} (h : S[n]? = some (.dic kvs)) (hk : (keyOf x).isSome = true) (hg : getKv kvs x = some r) : popD S (.ref n) x = some (r, S.set n (.dic (dropKv kvs x))) := by
  unfold popD
  simp only [h, hk, hg, if_true, Option.map_some]
theorem lenK_at {n : Nat} {kvs : List (D × R)} (h : S[n]? = some (.dic kvs)) : lenDic S (.ref n) = some ((kvs.length : Nat) : Int) := by
  unfold lenDic dicAt
  simp only [h]
end
end Pi

set_option Elab.async false
set_option linter.all false
set_option maxRecDepth 100000
/-! L94a: small functions of the program and of the law. -/
namespace G94
open PySem Pi
theorem hz : sizeLine = 16777216 := by decide
theorem w_whole (v lo hi : Int) (S : Store) : m_is_whole [.d (.int v), .d (.int lo), .d (.int hi)] S = .ok (.d (.bool (decide (lo ≤ v) && decide (v ≤ hi)))) S := by
  unfold m_is_whole
  rw [fnR_ev]
  simp [startR, isT, Ty.has, truD]
  split <;> simp_all
  intros; omega
theorem w_tuple_of (xs : List D) (lo hi : Int) (S : Store) : m_is_tuple_of [.d (.tuple xs), .d (.int lo), .d (.int hi)] S = .ok (.d (.bool (decide (lo ≤ xs.length) && decide ((xs.length : Int) ≤ hi)))) S := by
  unfold m_is_tuple_of
  rw [fnR_ev]
  simp [startR, isT, Ty.has, truD, lenD]
  split <;> simp_all
  intros; omega
theorem p_whole (v lo hi : Int) (S : Store) : runP m_is_whole [.int v, .int lo, .int hi] S = .ok (.d (.bool (decide (lo ≤ v) && decide (v ≤ hi)))) S := runP_ok S (w_whole v lo hi [])
theorem p_tuple_of (xs : List D) (lo hi : Int) (S : Store) : runP m_is_tuple_of [.tuple xs, .int lo, .int hi] S = .ok (.d (.bool (decide (lo ≤ xs.length) && decide ((xs.length : Int) ≤ hi)))) S := runP_ok S (w_tuple_of xs lo hi [])
abbrev ptD (p : Int × Int) : D := .tuple [.int p.1, .int p.2]
def fitsP (p : Int × Int) : Bool := (decide (0 ≤ p.1) && decide (p.1 ≤ 1000000000000000)) && (decide (-1000000000000 ≤ p.2) && decide (p.2 ≤ 1000000000000))
theorem w_fits_point (p : Int × Int) (S : Store) : m_fits_point [.d (ptD p)] S = .ok (.d (.bool (fitsP p))) S := by
  unfold m_fits_point
  rw [fnR_ev]
  simp [startR, p_whole, p_tuple_of, truD, fitsP]
  split <;> simp_all
  intros; omega
theorem p_fits_point (p : Int × Int) (S : Store) : runP m_fits_point [ptD p] S = .ok (.d (.bool (fitsP p))) S := runP_ok S (w_fits_point p [])
theorem eq_pt (p q : Int × Int) : eqD (ptD p) (ptD q) = some (.bool (decide (p = q))) := by
  rw [eqD_pure (by simp [pureT, pureTs]) (by simp [pureT, pureTs]) (by simp [PyData.depth, PyData.depthAll]) (by simp [PyData.depth, PyData.depthAll])]
  congr 2
  rw [Bool.eq_iff_iff, eqv_pure _ _ (by simp [pureT, pureTs]) (by simp [pureT, pureTs])]
  simp [Prod.ext_iff]
abbrev cellD (n : Int) (a b : Int × Int) (lo hi s : Int) : D := .tuple [.int n, ptD a, ptD b, .int lo, .int hi, .int s]
theorem min2 (a b : Int) : minD [.tuple [.int a, .int b]] = some (.int (min a b)) := rfl
theorem max2 (a b : Int) : maxD [.tuple [.int a, .int b]] = some (.int (max a b)) := rfl
abbrev Pt := Int × Int
structure CT where
  n : Int
  a : Pt
  b : Pt
  lo : Int
  hi : Int
  s : Int
abbrev cD (c : CT) : D := cellD c.n c.a c.b c.lo c.hi c.s
def joinC (c d : CT) : CT := ⟨c.n + d.n, c.a, d.b, min c.lo d.lo, max c.hi d.hi, c.s + d.s⟩
theorem w_joined (c d : CT) (S : Store) : m_joined [.d (cD c), .d (cD d)] S = .ok (.d (cD (joinC c d))) S := by
  have hz : sizeLine = 16777216 := by decide
  unfold m_joined
  rw [fnR_ev]
  simp [startR, hz, joinC]
theorem w_joined0 (d : CT) (S : Store) : m_joined [.d .none, .d (cD d)] S = .ok (.d (cD d)) S := by
  unfold m_joined
  rw [fnR_ev]
  simp [startR]
theorem p_joined (c d : CT) (S : Store) : runP m_joined [cD c, cD d] S = .ok (.d (cD (joinC c d))) S := runP_ok S (w_joined c d [])
theorem p_joined0 (d : CT) (S : Store) : runP m_joined [.none, cD d] S = .ok (.d (cD d)) S := runP_ok S (w_joined0 d [])
def joinAll : Option CT → List CT → Option CT
  | o, [] => o
  | none, c :: r => joinAll (some c) r
  | some x, c :: r => joinAll (some (joinC x c)) r
def optC : Option CT → D
  | some c => cD c
  | none => .none
@[simp] theorem optC_some (c : CT) : optC (some c) = cD c := rfl
@[simp] theorem optC_none : optC none = .none := rfl
theorem loop_joined (S : Store) : ∀ (cs : List CT) (x0 x2 : Option R) (o : Option CT), ∃ x2', forLoop (gN 2) (mAsg (gN 1) (mCallP m_joined (mCons (mVar 1) (mCons (mVar 2) mNil)))) (cs.map cD) [x0, some (.d (optC o)), x2] S = .nx [x0, some (.d (optC (joinAll o cs))), x2'] S
  | [], x0, x2, o => ⟨x2, by cases o <;> rfl⟩
  | c :: cs, x0, x2, o => by
    cases o with
    | none =>
      obtain ⟨x2', ih⟩ := loop_joined S cs x0 (some (.d (cD c))) (some c)
      refine ⟨x2', ?_⟩
      rw [List.map_cons, forLoop_cons]
      simp [p_joined0] at ih ⊢
      simp [ih, joinAll]
    | some x =>
      obtain ⟨x2', ih⟩ := loop_joined S cs x0 (some (.d (cD c))) (some (joinC x c))
      refine ⟨x2', ?_⟩
      rw [List.map_cons, forLoop_cons]
      simp [p_joined] at ih ⊢
      simp [ih, joinAll]
theorem p_joined_all (cs : List CT) (S : Store) : runP m_joined_all [.list (cs.map cD)] S = .ok (.d (optC (joinAll none cs))) S := by
  refine runP_ok (S' := []) S ?_
  unfold m_joined_all
  rw [fnR_ev]
  obtain ⟨x2', h⟩ := loop_joined [] cs (some (.d (.list (cs.map cD)))) none none
  simp at h
  simp [startR, h]
def cellOf (pts : List Pt) : CT := ⟨pts.length, pts.headD (0, 0), pts.getLastD (0, 0), minI (pts.map (·.2)), maxI (pts.map (·.2)), (pts.map (·.2)).sum⟩
def optP : List Pt → Option CT
  | [] => none
  | p :: r => some (cellOf (p :: r))
theorem ixLast (xs : List D) (d : D) (h : xs.getLast? = some d) : ixD (.list xs) (.int (-1)) = some d := by
  have hl : 0 < xs.length := by
    cases xs with
    | nil => cases h
    | cons _ _ => simp
  have h1 : -(xs.length : Int) ≤ -1 := by omega
  have h2 : (-1 + (xs.length : Int)).toNat = xs.length - 1 := by omega
  rw [List.getLast?_eq_getElem?] at h
  simp [ixD, atD, L2.ixN, h1, h2, h]
theorem p_law_cell (pts : List Pt) (hl : pts.length ≤ 1000) (S : Store) : runP m__law_cell [.list (pts.map ptD)] S = .ok (.d (optC (optP pts))) S := by
  have hz : sizeLine = 16777216 := by decide
  refine runP_ok (S' := []) S ?_
  unfold m__law_cell
  rw [fnR_ev]
  cases pts with
  | nil =>
    have : eqD (.list []) (.list []) = some (.bool true) := rfl
    simp [startR, this, optP]
  | cons p r =>
    have h0 : eqD (.list ((p :: r).map ptD)) (.list []) = some (.bool false) := by
      rw [eqD_pure]
      · simp [PyData.eqv, PyData.eqvAll]
      · exact pureTs_map (fun x => by simp [pureT, pureTs]) _
      · rfl
      · rw [PyData.depth]
        have : PyData.depthAll ((p :: r).map ptD) ≤ 1 := depthAll_le fun x hx => by
          obtain ⟨y, _, rfl⟩ := List.mem_map.mp hx
          simp [PyData.depth, PyData.depthAll]
        omega
      · simp [PyData.depth, PyData.depthAll]
    have lc : ∀ ρ : Pi.Env, ρ.length = 4 → lcLoop ρ (gT [gN 2, gN 3]) mYes (mVar 3) ((p :: r).map ptD) [] = .ok (((p :: r).map (·.2)).map .int) [] := fun ρ hl => by
      rw [List.map_map]
      refine lc_all ptD fun x _ => ⟨(ρ.set 2 (some (.d (.int x.1)))).set 3 (some (.d (.int x.2))), ?_, ?_⟩
      · simp
      · have : ((ρ.set 2 (some (R.d (.int x.1)))).set 3 (some (R.d (.int x.2))))[3]? = some (some (R.d (.int x.2))) := List.getElem?_set_self (by simp; omega)
        simp [this]
    have hlast : ixD (.list ((p :: r).map ptD)) (.int (-1)) = some (ptD ((p :: r).getLastD (0, 0))) := by
      refine ixLast _ _ ?_
      rw [List.getLast?_map, List.getLastD_eq_getLast?, List.getLast?_eq_some_getLast (by simp)]
      rfl
    have hfirst : ixD (.list ((p :: r).map ptD)) (.int 0) = some (ptD ((p :: r).headD (0, 0))) := by simp
    have hmin : minD [.list (((p :: r).map (·.2)).map .int)] = some (.int (minI ((p :: r).map (·.2)))) := by
      show minOf _ = _
      unfold minOf
      rw [intsD_map]
      rfl
    have hmax : maxD [.list (((p :: r).map (·.2)).map .int)] = some (.int (maxI ((p :: r).map (·.2)))) := by
      show maxOf _ = _
      unfold maxOf
      rw [intsD_map]
      rfl
    have hsum : sumD [.list (((p :: r).map (·.2)).map .int)] = some (.int (((p :: r).map (·.2)).sum)) := by
      show (intsD _).map _ = _
      rw [intsD_map]
      rfl
    have ho : optP (p :: r) = some (cellOf (p :: r)) := rfl
    generalize p :: r = q at *
    rw [List.map_map] at hmin hmax hsum
    have hl2 : q.length ≤ 16777216 := by omega
    simp [startR, h0, lc, hz, hl2, hfirst, hlast, hmin, hmax, hsum, ho, cellOf]
theorem same_tup (n : Nat) (xs : List D) (S : Store) (L J : List D) (hr : range1 [.int (xs.length : Int)] = some J)
    (lc : lcLoop [some (.d (.tuple xs)), some (.d (.tuple xs)), none] (gN 2) mYes (mCallP (m__law_same n) (mCons (mOp2 ixD (mVar 0) (mVar 2)) (mCons (mOp2 ixD (mVar 1) (mVar 2)) mNil))) J S = .ok L S) (hL : L.length ≤ sizeLine) (hall : allD1 [.list L] = some (.bool true)) :
    m__law_same (n + 1) [.d (.tuple xs), .d (.tuple xs)] S = .ok (.d (.bool true)) S := by
  unfold m__law_same
  generalize m__law_same n = F at lc ⊢
  rw [fnR_ev]
  have c1 : mTruth (mOp1 (isT .tup) (mVar 1)) [some (.d (.tuple xs)), some (.d (.tuple xs)), none] S = .ok true S := by simp [Ty.has]
  have c2 : (mIf (mOrT (mNotT (mTruth (mOp1 (isT .tup) (mVar 0)))) (mB (mOp2 neD (mCB lenD (mCons (mVar 0) mNil)) (mCB lenD (mCons (mVar 1) mNil))))) (mRet (mD (.bool false))) mSkip) [some (.d (.tuple xs)), some (.d (.tuple xs)), none] S = .nx [some (.d (.tuple xs)), some (.d (.tuple xs)), none] S := by simp [Ty.has]
  have c3 : (mLc (mItA range1 (mCons (mCB lenD (mCons (mVar 1) mNil)) mNil)) [2] (gN 2) mYes (mCallP F (mCons (mOp2 ixD (mVar 0) (mVar 2)) (mCons (mOp2 ixD (mVar 1) (mVar 2)) mNil)))) [some (.d (.tuple xs)), some (.d (.tuple xs)), none] S = .ok L S := by
    simp [hr]
    rw [lc]
    simp [hL]
  rw [show startR 3 [R.d (.tuple xs), R.d (.tuple xs)] = [some (.d (.tuple xs)), some (.d (.tuple xs)), none] from rfl, mSeq_ev, mIf_ev, c1]
  simp only [Res.out_ok, if_true]
  rw [mSeq_ev, c2, seq_nx, mRet_ev, mCB_ev, mCons_ev, mFrz_ev, c3]
  simp [hall]
theorem w_same (n : Nat) : ∀ (x : D) (S : Store), okS x = true → x.depth < n → m__law_same n [.d x, .d x] S = .ok (.d (.bool true)) S := by
  induction n with
  | zero => exact fun x S _ h => absurd h (Nat.not_lt_zero _)
  | succ n ih =>
    intro x S ok h
    have hz : sizeLine = 16777216 := by decide
    cases x with
    | none =>
      unfold m__law_same
      rw [fnR_ev]
      simp [startR, Ty.has]
    | bool b =>
      unfold m__law_same
      rw [fnR_ev]
      cases b <;> simp [startR, Ty.has]
    | int i =>
      unfold m__law_same
      rw [fnR_ev]
      simp [startR, Ty.has]
    | tuple xs =>
      unfold okS at ok
      simp only [Bool.and_eq_true, decide_eq_true_eq] at ok
      obtain ⟨hl, oks⟩ := ok
      rw [PyData.depth] at h
      have lc : ∀ ρ : Pi.Env, ρ.length = 3 → ρ[0]? = some (some (.d (.tuple xs))) → ρ[1]? = some (some (.d (.tuple xs))) →
          lcLoop ρ (gN 2) mYes (mCallP (m__law_same n) (mCons (mOp2 ixD (mVar 0) (mVar 2)) (mCons (mOp2 ixD (mVar 1) (mVar 2)) mNil))) ((List.range xs.length).map fun k : Nat => PyData.int (k : Int)) S = .ok ((List.range xs.length).map fun _ => .bool true) S := fun ρ h3 h0 h1 => by
        refine lc_all (fun k : Nat => PyData.int (k : Int)) fun k hk => ⟨ρ.set 2 (some (.d (.int k))), rfl, ?_⟩
        have hk' : k < xs.length := List.mem_range.mp hk
        have e0 : (ρ.set 2 (some (R.d (.int k))))[0]? = some (some (.d (.tuple xs))) := by rw [List.getElem?_set_ne (by decide)]; exact h0
        have e1 : (ρ.set 2 (some (R.d (.int k))))[1]? = some (some (.d (.tuple xs))) := by rw [List.getElem?_set_ne (by decide)]; exact h1
        have e2 : (ρ.set 2 (some (R.d (.int k))))[2]? = some (some (.d (.int k))) := List.getElem?_set_self (by omega)
        have ex : xs[k]? = some xs[k] := List.getElem?_eq_getElem hk'
        have hrec := runP_ok (ds := [xs[k], xs[k]]) S (ih xs[k] [] (okSs_get oks ex) (by have := depth_get ex; omega))
        simp [e0, e1, e2, ixT xs k hk', ex]
        exact hrec
      have hlen : (xs.length : Int) ≤ 2 ^ 40 := by omega
      have hr : range1 [.int (xs.length : Int)] = some ((List.range xs.length).map fun k : Nat => PyData.int (k : Int)) := by
        have := range1_nat (j := (xs.length : Int)) (by omega) hlen
        rw [this, Int.toNat_natCast]
      have hall := allD1_const (List.range xs.length)
      have hL : ((List.range xs.length).map fun _ => PyData.bool true).length ≤ sizeLine := by rw [List.length_map, List.length_range, hz]; omega
      have lc' := lc [some (.d (.tuple xs)), some (.d (.tuple xs)), none] rfl rfl rfl
      generalize ((List.range xs.length).map fun _ => PyData.bool true) = L at hall hL lc'
      generalize ((List.range xs.length).map fun k : Nat => PyData.int (k : Int)) = J at hr lc'
      exact same_tup n xs S L J hr lc' hL hall
    | str _ => cases ok
    | list _ => cases ok
    | dict _ => cases ok
theorem p_same (x : D) (S : Store) (h1 : okS x = true) (h2 : x.depth < 8) : runP (m__law_same 8) [x, x] S = .ok (.d (.bool true)) S := runP_ok S (w_same 8 x [] h1 h2)
abbrev cup (a b : Int) : Cell := .lst [.int a, .int b]
theorem w_roll (a b m : Int) (h0 : 0 < m) (h1 : m < 2 ^ 32) : ∃ r a' b', 0 ≤ r ∧ r < m ∧ m__law_roll [.ref 0, .d (.int m)] [cup a b] = .ok (.d (.int r)) [cup a' b'] := by
  have hr : ∀ x y : Int, rd [cup x y] (.ref 0) = some (.list [.int x, .int y]) := fun _ _ => rfl
  have hp : ∀ x y z : Int, putR [cup x y] (.ref 0) (.d (.int 0)) (.d (.int z)) = some [cup z y] := fun _ _ _ => rfl
  have hq : ∀ x y z : Int, putR [cup x y] (.ref 0) (.d (.int 1)) (.d (.int z)) = some [cup x z] := fun _ _ _ => rfl
  unfold m__law_roll
  rw [fnR_ev]
  by_cases ha : 0 < a
  · refine ⟨a % m, a / m, b, Int.emod_nonneg _ (by omega), Int.emod_lt_of_pos _ h0, ?_⟩
    simp [startR, hr, ha, modD_int h0, divD_int h0 (by omega), mPut, hp]
  · refine ⟨((b * 30931 + 7907) % 2147483399 * ((b * 30931 + 7907) % 2147483399 + 251)) % 2147483563 / 829 % m, a, (b * 30931 + 7907) % 2147483399, Int.emod_nonneg _ (by omega), Int.emod_lt_of_pos _ h0, ?_⟩
    have b0 : 0 ≤ (b * 30931 + 7907) % 2147483399 := Int.emod_nonneg _ (by omega)
    have b1 : (b * 30931 + 7907) % 2147483399 < 2147483399 := Int.emod_lt_of_pos _ (by omega)
    have m1 : mulD (.int b) (.int 30931) = some (.int (b * 30931)) := mulD_int (mulOk_r (by omega))
    generalize hcc : (b * 30931 + 7907) % 2147483399 = c at *
    have m2 : mulD (.int c) (.int (c + 251)) = some (.int (c * (c + 251))) := mulD_int (mulOk_r (by omega))
    have d1 : modD (.int (b * 30931 + 7907)) (.int 2147483399) = some (.int c) := by rw [modD_int (by omega), hcc]
    have d2 : modD (.int (c * (c + 251))) (.int 2147483563) = some (.int (c * (c + 251) % 2147483563)) := modD_int (by omega)
    have d3 : divD (.int (c * (c + 251) % 2147483563)) (.int 829) = some (.int (c * (c + 251) % 2147483563 / 829)) := divD_int (by omega) (by omega)
    have d4 : modD (.int (c * (c + 251) % 2147483563 / 829)) (.int m) = some (.int (c * (c + 251) % 2147483563 / 829 % m)) := modD_int h0
    simp [startR, hr, ha, hq, m1, m2, d1, d2, d3, d4]
theorem r_roll (a b m : Int) (T : Store) (h0 : 0 < m) (h1 : m < 2 ^ 32) : ∃ r a' b', 0 ≤ r ∧ r < m ∧ run1 m__law_roll 0 [.int m] (cup a b :: T) = .ok (.d (.int r)) (cup a' b' :: T) := by
  obtain ⟨r, a', b', h2, h3, h4⟩ := w_roll a b m h0 h1
  exact ⟨r, a', b', h2, h3, run1_ok (S := cup a b :: T) (T := []) rfl h4⟩
def putI (l : List Pt) (k v : Int) : List Pt := if (l.any fun p => decide (p.1 = k)) = true then l.map fun p => if p.1 = k then (p.1, v) else p else l ++ [(k, v)]
def encI (l : List Pt) : List (D × R) := l.map fun p => (.int p.1, .d (.int p.2))
theorem put_enc (l : List Pt) (k v : Int) : putKv (encI l) (.int k) (.d (.int v)) = encI (putI l k v) := by
  unfold putKv putI encI
  have e1 : ((l.map fun p => ((PyData.int p.1, R.d (PyData.int p.2)) : D × R)).any fun p => kEq p.1 (.int k)) = l.any fun p => decide (p.1 = k) := by
    rw [List.any_map]
    rfl
  rw [e1]
  split
  · rw [List.map_map, List.map_map]
    refine List.map_congr_left fun p _ => ?_
    show (if kEq (.int p.1) (.int k) = true then _ else _) = (((.int (if p.1 = k then (p.1, v) else p).1, .d (.int (if p.1 = k then (p.1, v) else p).2)) : D × R))
    by_cases h : p.1 = k
    · simp [kEq, h]
    · simp [kEq, h]
  · simp
def leP (p q : Pt) : Bool := decide (p.1 < q.1 ∨ (p.1 = q.1 ∧ p.2 ≤ q.2))
theorem leP_tr (a b c : Pt) (h1 : leP a b = true) (h2 : leP b c = true) : leP a c = true := by
  unfold leP at *
  simp only [decide_eq_true_eq] at *
  omega
theorem leP_to (a b : Pt) : (leP a b || leP b a) = true := by
  unfold leP
  rw [Bool.or_eq_true, decide_eq_true_eq, decide_eq_true_eq]
  omega
theorem sort_pts (l : List Pt) : sortD (l.map ptD) = (sortBy leP l).map ptD := by
  unfold sortD
  rw [sortBy_map]
  congr 2
  funext p q
  show PySem.W.dataLe false ptD p q = _
  rw [show PySem.W.dataLe false ptD = PySem.W.dataLe false (fun p : Pt => PyData.tuple [.int p.1, .int p.2]) from rfl, PySem.W.dataLe_ii]
  rfl
theorem pairs_enc : ∀ l : List Pt, pairsR (encI l) = some (l.map ptD)
  | [] => rfl
  | p :: l => by
    show (match pairsR (encI l) with | some r => some (PyData.tuple [.int p.1, .int p.2] :: r) | none => none) = _
    rw [pairs_enc l]
    rfl
theorem items_enc (l : List Pt) (h : l.length ≤ 100) : itemsD (encI l) = some ((sortBy leP l).map ptD) := by
  have hz : sizeLine = 16777216 := by decide
  unfold itemsD
  rw [pairs_enc, if_pos (by unfold encI; rw [List.length_map]; omega)]
  have ok : (okSort (l.map ptD) && noLs (l.map ptD)) = true := by
    have h2 : ∀ l : List Pt, noLs (l.map ptD) = true := fun l => by
      induction l with
      | nil => rfl
      | cons p r ih => rw [List.map_cons, noLs, ih]; simp [noL, noLs]
    rw [h2, Bool.and_true]
    unfold okSort
    simp only [Bool.and_eq_true, Bool.or_eq_true, List.all_eq_true, List.mem_map, decide_eq_true_eq, List.length_map]
    refine ⟨?_, .inl ?_, ?_, by omega⟩
    · rintro _ ⟨p, _, rfl⟩ _ ⟨q, _, rfl⟩
      simp [PySem.W.alike, PySem.W.alikeAll]
    · rintro _ ⟨p, _, rfl⟩
      rfl
    · rintro _ ⟨p, _, rfl⟩
      simp [PyData.depth, PyData.depthAll]
  show (if (okSort (l.map ptD) && noLs (l.map ptD)) = true then some (sortD (l.map ptD)) else none) = _
  rw [if_pos ok, sort_pts]
theorem sorted_up {l : List Pt} (nd : (l.map (·.1)).Nodup) : (sortBy leP l).Pairwise fun p q => p.1 < q.1 := by
  have h1 := sortBy_sorted leP_tr leP_to l
  have h2 : ((sortBy leP l).map (·.1)).Nodup := ((sortBy_perm (le := leP) l).map _).nodup_iff.mpr nd
  have h3 : (sortBy leP l).Pairwise fun p q => p.1 ≠ q.1 := List.pairwise_map.mp h2
  refine (h1.and h3).imp fun {p q} ⟨a, b⟩ => ?_
  unfold leP at a
  simp only [decide_eq_true_eq] at a
  omega
theorem app_sum : ∀ l m : List Int, (l ++ m).sum = l.sum + m.sum
  | [], m => by simp
  | x :: l, m => by rw [List.cons_append, List.sum_cons, List.sum_cons, app_sum l m]; omega
theorem minI_app (x : Int) (m : List Int) (y : Int) : ∀ (l : List Int), minI ((x :: l) ++ (y :: m)) = min (minI (x :: l)) (minI (y :: m)) := fun l => by
  obtain ⟨a1, a2⟩ := minI_spec x (l ++ y :: m)
  obtain ⟨b1, b2⟩ := minI_spec x l
  obtain ⟨c1, c2⟩ := minI_spec y m
  have d1 := a2 _ (show minI (x :: l) ∈ x :: (l ++ y :: m) by
    rcases List.mem_cons.mp b1 with h | h
    · rw [h]; exact List.mem_cons_self
    · exact List.mem_cons_of_mem _ (List.mem_append_left _ h))
  have d2 := a2 _ (show minI (y :: m) ∈ x :: (l ++ y :: m) from List.mem_cons_of_mem _ (List.mem_append_right _ c1))
  rw [List.cons_append]
  have d3 : minI (x :: l) ≤ minI (x :: (l ++ y :: m)) ∨ minI (y :: m) ≤ minI (x :: (l ++ y :: m)) := by
    rcases List.mem_cons.mp a1 with h | h
    · rw [h]; exact .inl (b2 _ List.mem_cons_self)
    · rcases List.mem_append.mp h with h | h
      · exact .inl (b2 _ (List.mem_cons_of_mem _ h))
      · exact .inr (c2 _ h)
  omega
theorem maxI_app (x : Int) (m : List Int) (y : Int) : ∀ (l : List Int), maxI ((x :: l) ++ (y :: m)) = max (maxI (x :: l)) (maxI (y :: m)) := fun l => by
  obtain ⟨a1, a2⟩ := maxI_spec x (l ++ y :: m)
  obtain ⟨b1, b2⟩ := maxI_spec x l
  obtain ⟨c1, c2⟩ := maxI_spec y m
  have d1 := a2 _ (show maxI (x :: l) ∈ x :: (l ++ y :: m) by
    rcases List.mem_cons.mp b1 with h | h
    · rw [h]; exact List.mem_cons_self
    · exact List.mem_cons_of_mem _ (List.mem_append_left _ h))
  have d2 := a2 _ (show maxI (y :: m) ∈ x :: (l ++ y :: m) from List.mem_cons_of_mem _ (List.mem_append_right _ c1))
  rw [List.cons_append]
  have d3 : maxI (x :: (l ++ y :: m)) ≤ maxI (x :: l) ∨ maxI (x :: (l ++ y :: m)) ≤ maxI (y :: m) := by
    rcases List.mem_cons.mp a1 with h | h
    · rw [h]; exact .inl (b2 _ List.mem_cons_self)
    · rcases List.mem_append.mp h with h | h
      · exact .inl (b2 _ (List.mem_cons_of_mem _ h))
      · exact .inr (c2 _ h)
  omega
theorem join_app (p q : List Pt) (hp : p ≠ []) (hq : q ≠ []) : joinC (cellOf p) (cellOf q) = cellOf (p ++ q) := by
  cases p with
  | nil => exact absurd rfl hp
  | cons x p =>
    cases q with
    | nil => exact absurd rfl hq
    | cons y q =>
      unfold joinC cellOf
      have e1 : ((x :: p) ++ (y :: q)).getLastD (0, 0) = (y :: q).getLastD (0, 0) := by
        rw [List.getLastD_eq_getLast?, List.getLastD_eq_getLast?, List.getLast?_append]
        rw [List.getLast?_eq_some_getLast (l := y :: q) (by simp)]
        rfl
      have e2 := minI_app x.2 (q.map (·.2)) y.2 (p.map (·.2))
      have e3 := maxI_app x.2 (q.map (·.2)) y.2 (p.map (·.2))
      have e4 := app_sum ((x :: p).map (·.2)) ((y :: q).map (·.2))
      rw [e1, List.map_append, e4]
      simp only [List.map_cons, List.map_append] at e2 e3 ⊢
      rw [e2, e3]
      simp
      omega
theorem joinAll_some : ∀ (chs : List (List Pt)) (p : List Pt), p ≠ [] → (∀ c ∈ chs, c ≠ []) → joinAll (some (cellOf p)) (chs.map cellOf) = some (cellOf (p ++ chs.flatten))
  | [], p, _, _ => by simp [joinAll]
  | c :: chs, p, hp, h => by
    have hc := h c List.mem_cons_self
    rw [List.map_cons, joinAll, join_app p c hp hc, joinAll_some chs (p ++ c) (by simp [hp]) fun d hd => h d (List.mem_cons_of_mem _ hd)]
    simp
theorem joinAll_chs (chs : List (List Pt)) (h : ∀ c ∈ chs, c ≠ []) : joinAll none (chs.map cellOf) = optP chs.flatten := by
  cases chs with
  | nil => rfl
  | cons c chs =>
    have hc := h c List.mem_cons_self
    rw [List.map_cons, joinAll, joinAll_some chs c hc fun d hd => h d (List.mem_cons_of_mem _ hd), List.flatten_cons]
    cases c with
    | nil => exact absurd rfl hc
    | cons p c => rfl
theorem loop_power (S : Store) (x0 : Option R) : ∀ (k : Nat) (f : Int) (ds : List D) (x2 : Option R), ds.length = k → ∃ x2', forLoop (gN 2) (mAsg (gN 1) (mOp2 mulD (mD (.int 2)) (mVar 1))) ds [x0, some (.d (.int f)), x2] S = .nx [x0, some (.d (.int (2 ^ k * f))), x2'] S
  | 0, f, [], x2, _ => ⟨x2, by simp⟩
  | k + 1, f, d :: ds, x2, h => by
    have m1 : mulD (.int 2) (.int f) = some (.int (2 * f)) := mulD_int (mulOk_l (by omega))
    obtain ⟨x2', ih⟩ := loop_power S x0 k (2 * f) ds (some (.d d)) (by simpa using h)
    refine ⟨x2', ?_⟩
    rw [forLoop_cons]
    have e : (2 : Int) ^ k * (2 * f) = 2 ^ (k + 1) * f := by rw [Int.pow_succ, Int.mul_assoc]
    simp [m1, ih, e]
theorem p_power (k : Nat) (h : k ≤ 1000) (S : Store) : runP m_power [.int k] S = .ok (.d (.int (2 ^ k))) S := by
  refine runP_ok (S' := []) S ?_
  unfold m_power
  rw [fnR_ev]
  obtain ⟨x2', e⟩ := loop_power [] (some (.d (.int k))) k 1 ((List.range k).map fun j : Nat => PyData.int (j : Int)) none (by simp)
  have hr := range1_nat (j := (k : Int)) (by omega) (by omega)
  rw [Int.toNat_natCast] at hr
  generalize ((List.range k).map fun j : Nat => PyData.int (j : Int)) = J at *
  rw [Int.mul_one] at e
  simp [startR, hr, e]
def upB (a last l : Nat) : Bool := decide (a % 2 ^ (l + 1) = 0) && decide (a + 2 ^ (l + 1) ≤ last + 1)
def levG (a last : Nat) : Nat → Nat → Nat
  | 0, l => l
  | k + 1, l => if upB a last l then levG a last k (l + 1) else l
theorem p_power1 (l : Nat) (h : l < 100) (S : Store) : runP m_power [.int ((l : Int) + 1)] S = .ok (.d (.int (2 ^ (l + 1)))) S := by
  have e : (l : Int) + 1 = ((l + 1 : Nat) : Int) := by omega
  rw [e]
  exact p_power (l + 1) (by omega) S
theorem levG_le (a last : Nat) : ∀ (k l : Nat), levG a last k l ≤ l + k
  | 0, l => Nat.le_refl _
  | k + 1, l => by
    unfold levG
    split
    · have := levG_le a last k (l + 1); omega
    · omega
abbrev lpD (p : Nat × Nat) : D := .tuple [.int p.1, .int p.2]
theorem mWhile_ev (n : Nat) (c : TM) (b : SM) (ρ : Pi.Env) (S : Store) : mWhile n c b ρ S = whileLoop c b n ρ S := rfl
end G94

set_option Elab.async false
set_option linter.all false
set_option maxRecDepth 100000
/-! L94b: dicts as lists of pairs; ranges of points; the view's state. -/
namespace G94
open PySem Pi
section
variable {κ β : Type} [DecidableEq κ]
def getA (L : List (κ × β)) (k : κ) : Option β := (L.find? fun p => decide (p.1 = k)).map (·.2)
def putA (L : List (κ × β)) (k : κ) (v : β) : List (κ × β) := if (L.any fun p => decide (p.1 = k)) = true then L.map fun p => if p.1 = k then (p.1, v) else p else L ++ [(k, v)]
def dropA (L : List (κ × β)) (k : κ) : List (κ × β) := L.filter fun p => !decide (p.1 = k)
def setA (L : List (κ × β)) (k : κ) : Option β → List (κ × β)
  | some v => putA L k v
  | none => dropA L k
theorem getA_nil (k : κ) : getA ([] : List (κ × β)) k = none := rfl
theorem getA_cons (p : κ × β) (L : List (κ × β)) (k : κ) : getA (p :: L) k = if p.1 = k then some p.2 else getA L k := by
  unfold getA
  rw [List.find?_cons]
  by_cases h : p.1 = k <;> simp [h]
theorem getA_app (L M : List (κ × β)) (k : κ) : getA (L ++ M) k = (getA L k).or (getA M k) := by
  induction L with
  | nil => rfl
  | cons p L ih =>
    rw [List.cons_append, getA_cons, getA_cons, ih]
    split <;> rfl
theorem any_getA (L : List (κ × β)) (k : κ) : (L.any fun p => decide (p.1 = k)) = (getA L k).isSome := by
  induction L with
  | nil => rfl
  | cons p L ih =>
    rw [List.any_cons, getA_cons, ih]
    by_cases h : p.1 = k <;> simp [h]
theorem getA_put (L : List (κ × β)) (k j : κ) (v : β) : getA (putA L k v) j = if j = k then some v else getA L j := by
  unfold putA
  rw [any_getA]
  have hm : ∀ L : List (κ × β), getA (L.map fun p => if p.1 = k then (p.1, v) else p) j = if j = k then (getA L j).map fun _ => v else getA L j := by
    intro L
    induction L with
    | nil => simp [getA_nil]
    | cons p L ih =>
      rw [List.map_cons, getA_cons, getA_cons, ih]
      by_cases h1 : p.1 = k
      · by_cases h2 : j = k
        · subst h2; simp [h1]
        · have : ¬ k = j := fun e => h2 e.symm
          simp [h1, h2, this]
      · by_cases h2 : j = k
        · subst h2; simp [h1]
        · simp [h1, h2]
  split
  · rename_i h
    rw [hm]
    by_cases h2 : j = k
    · subst h2
      obtain ⟨x, hx⟩ := Option.isSome_iff_exists.mp h
      simp [hx]
    · simp [h2]
  · rename_i h
    rw [getA_app, getA_cons, getA_nil]
    by_cases h2 : j = k
    · subst h2
      have hn : getA L j = none := by simpa using h
      simp [hn]
    · have : ¬ k = j := fun e => h2 e.symm
      simp [h2, this]
theorem getA_drop (L : List (κ × β)) (k j : κ) : getA (dropA L k) j = if j = k then none else getA L j := by
  unfold dropA
  induction L with
  | nil => simp [getA_nil]
  | cons p L ih =>
    rw [List.filter_cons]
    by_cases h1 : p.1 = k
    · rw [if_neg (by simp [h1]), ih, getA_cons]
      by_cases h2 : j = k
      · simp [h2]
      · have : ¬ k = j := fun e => h2 e.symm
        simp [h2, h1, this]
    · rw [if_pos (by simp [h1]), getA_cons, getA_cons, ih]
      by_cases h2 : j = k
      · subst h2; simp [h1]
      · simp [h2]
theorem getA_set (L : List (κ × β)) (k j : κ) (o : Option β) : getA (setA L k o) j = if j = k then o else getA L j := by
  cases o with
  | none => exact getA_drop L k j
  | some v => exact getA_put L k j v
theorem keys_put (L : List (κ × β)) (k : κ) (v : β) : (putA L k v).map (·.1) = if (getA L k).isSome then L.map (·.1) else L.map (·.1) ++ [k] := by
  unfold putA
  rw [any_getA]
  split
  · rw [List.map_map]
    refine List.map_congr_left fun p _ => ?_
    show (if p.1 = k then (p.1, v) else p).1 = p.1
    split <;> rfl
  · simp
theorem mem_key (L : List (κ × β)) (k : κ) : k ∈ L.map (·.1) ↔ (getA L k).isSome = true := by
  rw [← any_getA, List.any_eq_true]
  simp
theorem nodup_put {L : List (κ × β)} (h : (L.map (·.1)).Nodup) (k : κ) (v : β) : ((putA L k v).map (·.1)).Nodup := by
  rw [keys_put]
  split
  · exact h
  · rename_i hn
    rw [List.nodup_append]
    refine ⟨h, by simp, fun x hx y hy e => ?_⟩
    have : y = k := by simpa using hy
    subst this; subst e
    exact hn ((mem_key L x).mp hx)
theorem nodup_drop {L : List (κ × β)} (h : (L.map (·.1)).Nodup) (k : κ) : ((dropA L k).map (·.1)).Nodup := h.sublist ((List.filter_sublist).map _)
theorem nodup_set {L : List (κ × β)} (h : (L.map (·.1)).Nodup) (k : κ) (o : Option β) : ((setA L k o).map (·.1)).Nodup := by
  cases o with
  | none => exact nodup_drop h k
  | some v => exact nodup_put h k v
theorem len_put (L : List (κ × β)) (k : κ) (v : β) : (putA L k v).length ≤ L.length + 1 := by
  unfold putA
  split <;> simp
theorem len_set (L : List (κ × β)) (k : κ) (o : Option β) : (setA L k o).length ≤ L.length + 1 := by
  cases o with
  | none => exact Nat.le_trans (List.length_filter_le _ _) (Nat.le_succ _)
  | some v => exact len_put L k v
theorem drop_none {L : List (κ × β)} {k : κ} (h : getA L k = none) : dropA L k = L := by
  unfold dropA
  rw [List.filter_eq_self]
  intro p hp
  simp only [Bool.not_eq_true', decide_eq_false_iff_not]
  intro e
  have := (mem_key L k).mp (List.mem_map.mpr ⟨p, hp, e⟩)
  rw [h] at this
  cases this
theorem mem_get {L : List (κ × β)} (h : (L.map (·.1)).Nodup) {k : κ} {v : β} : (k, v) ∈ L ↔ getA L k = some v := by
  induction L with
  | nil => simp [getA_nil]
  | cons p L ih =>
    rw [List.map_cons, List.nodup_cons] at h
    rw [getA_cons, List.mem_cons]
    by_cases e : p.1 = k
    · rw [if_pos e]
      constructor
      · rintro (z | z)
        · rw [← z]
        · exact absurd (List.mem_map.mpr ⟨_, z, rfl⟩) (by rw [← e]; exact h.1)
      · intro z
        left
        cases z
        rw [← e]
    · rw [if_neg e, ← ih h.2]
      constructor
      · rintro (z | z)
        · exact absurd (by rw [← z]) e
        · exact z
      · exact .inr
end
/-! keys, encodings -/
abbrev K2 := Int × Int
abbrev kD (k : K2) : D := .tuple [.int k.1, .int k.2]
def encC (L : List (K2 × CT)) : List (D × R) := L.map fun e => (kD e.1, .d (cD e.2))
theorem kEq_k (k j : K2) : kEq (kD k) (kD j) = decide (k = j) := by
  obtain ⟨a, b⟩ := k
  obtain ⟨c, d⟩ := j
  show (decide (a = c) && (decide (b = d) && true)) = _
  rw [Bool.and_true]
  by_cases h1 : a = c <;> by_cases h2 : b = d <;> simp [h1, h2]
theorem keyH_k (k : K2) : (keyH (kD k)).isSome = true := by
  obtain ⟨a, b⟩ := k
  rfl
theorem get_encC (L : List (K2 × CT)) (k : K2) : getKv (encC L) (kD k) = (getA L k).map fun c => .d (cD c) := by
  unfold getKv encC
  induction L with
  | nil => rfl
  | cons p L ih =>
    rw [List.map_cons, List.find?_cons, getA_cons]
    simp only [kEq_k]
    by_cases h : p.1 = k
    · simp [h]
    · simp only [h, decide_false, if_false]; exact ih
theorem put_encC (L : List (K2 × CT)) (k : K2) (c : CT) : putKv (encC L) (kD k) (.d (cD c)) = encC (putA L k c) := by
  unfold putKv putA encC
  have e1 : ((L.map fun e => ((kD e.1, R.d (cD e.2)) : D × R)).any fun p => kEq p.1 (kD k)) = L.any fun p => decide (p.1 = k) := by
    rw [List.any_map]
    congr 1
    funext p
    exact kEq_k _ _
  rw [e1]
  split
  · rw [List.map_map, List.map_map]
    refine List.map_congr_left fun p _ => ?_
    simp only [Function.comp_def, kEq_k]
    by_cases h : p.1 = k <;> simp [h]
  · simp
theorem drop_encC (L : List (K2 × CT)) (k : K2) : dropKv (encC L) (kD k) = encC (dropA L k) := by
  unfold dropKv dropA encC
  rw [List.filter_map]
  congr 1
  refine List.filter_congr fun p _ => ?_
  simp only [Function.comp_def, kEq_k]
theorem get_encI (L : List Pt) (k : Int) : getKv (encI L) (.int k) = (getA L k).map fun v => .d (.int v) := by
  unfold getKv encI
  induction L with
  | nil => rfl
  | cons p L ih =>
    rw [List.map_cons, List.find?_cons, getA_cons]
    have : kEq (.int p.1) (.int k) = decide (p.1 = k) := rfl
    simp only [this]
    by_cases h : p.1 = k
    · simp [h]
    · simp only [h, decide_false, if_false]; exact ih
theorem putI_eq (L : List Pt) (k v : Int) : putI L k v = putA L k v := rfl
theorem drop_encI (L : List Pt) (k : Int) : dropKv (encI L) (.int k) = encI (dropA L k) := by
  unfold dropKv dropA encI
  rw [List.filter_map]
  congr 1
/-! ranges -/
def Up (A : List Pt) : Prop := A.Pairwise fun p q => p.1 < q.1
def rng (a b : Int) (A : List Pt) : List Pt := A.filter fun p => decide (a ≤ p.1 ∧ p.1 < b)
theorem rng_none {a b : Int} {A : List Pt} (h : ∀ p ∈ A, ¬ (a ≤ p.1 ∧ p.1 < b)) : rng a b A = [] := by
  unfold rng
  rw [List.filter_eq_nil_iff]
  intro p hp
  simpa using h p hp
theorem rng_split {a b c : Int} (h1 : a ≤ b) (h2 : b ≤ c) : ∀ {A : List Pt}, Up A → rng a c A = rng a b A ++ rng b c A
  | [], _ => rfl
  | p :: A, u => by
    obtain ⟨u1, u2⟩ := List.pairwise_cons.mp u
    have ih := rng_split h1 h2 u2
    unfold rng at ih ⊢
    rw [List.filter_cons, List.filter_cons, List.filter_cons]
    by_cases q1 : a ≤ p.1 ∧ p.1 < b
    · rw [if_pos (by simp; omega), if_pos (by simp; omega), if_neg (by simp; omega), ih]; rfl
    · by_cases q2 : b ≤ p.1 ∧ p.1 < c
      · have e0 : A.filter (fun p => decide (a ≤ p.1 ∧ p.1 < b)) = [] := rng_none fun x hx => by have := u1 x hx; omega
        rw [e0, List.nil_append] at ih
        rw [if_pos (by simp; omega), if_neg (by simpa using q1), if_pos (by simpa using q2), ih, e0]; rfl
      · rw [if_neg (by simp; omega), if_neg (by simpa using q1), if_neg (by simpa using q2), ih]
theorem Up.rng {A : List Pt} (h : Up A) (a b : Int) : Up (rng a b A) := List.Pairwise.sublist List.filter_sublist h
end G94

set_option Elab.async false
set_option linter.all false
set_option maxRecDepth 100000
/-! L94c: the view's methods: put. -/
namespace G94
open PySem Pi
abbrev fB : Str := Str.ofString "base"
abbrev fP : Str := Str.ofString "points"
abbrev fC : Str := Str.ofString "cells"
abbrev fM : Str := Str.ofString "made"
def vfs (b : Int) (p c : Nat) (m : Int) : List (Str × R) := [(fB, .d (.int b)), (fP, .ref p), (fC, .ref c), (fM, .d (.int m))]
/-- a view that stands at n: its width, its points, its cells, its work -/
structure VS (S : Store) (n p c : Nat) (b : Int) (P : List Pt) (C : List (K2 × CT)) (m : Int) : Prop where
  obj : S[n]? = some (.obj "View" (vfs b p c m))
  pts : S[p]? = some (.dic (encI P))
  cel : S[c]? = some (.dih (encC C))
section
variable {S : Store} {n p c : Nat} {b m : Int} {P : List Pt} {C : List (K2 × CT)}
theorem VS.np (h : VS S n p c b P C m) : n ≠ p := fun e => by have := h.obj; rw [e, h.pts] at this; cases this
theorem VS.nc (h : VS S n p c b P C m) : n ≠ c := fun e => by have := h.obj; rw [e, h.cel] at this; cases this
theorem VS.pc (h : VS S n p c b P C m) : p ≠ c := fun e => by have := h.pts; rw [e, h.cel] at this; cases this
theorem VS.lt (h : VS S n p c b P C m) : n < S.length ∧ p < S.length ∧ c < S.length := ⟨(List.getElem?_eq_some_iff.mp h.obj).1, (List.getElem?_eq_some_iff.mp h.pts).1, (List.getElem?_eq_some_iff.mp h.cel).1⟩
theorem VS.fB (h : VS S n p c b P C m) : fldR S "View" fB (.ref n) = some (.d (.int b)) := fld_at _ _ _ h.obj (by rfl)
theorem VS.fP (h : VS S n p c b P C m) : fldR S "View" fP (.ref n) = some (.ref p) := fld_at _ _ _ h.obj (by rfl)
theorem VS.fC (h : VS S n p c b P C m) : fldR S "View" fC (.ref n) = some (.ref c) := fld_at _ _ _ h.obj (by rfl)
theorem VS.fM (h : VS S n p c b P C m) : fldR S "View" fM (.ref n) = some (.d (.int m)) := fld_at _ _ _ h.obj (by rfl)
theorem VS.setM (h : VS S n p c b P C m) (m' : Int) : setF S "View" G94.fM (.ref n) (.d (.int m')) = some (S.set n (.obj "View" (vfs b p c m'))) := by
  rw [setF_at _ _ _ h.obj (show 4 < 1000 by decide)]
  rfl
theorem VS.made (h : VS S n p c b P C m) (m' : Int) : VS (S.set n (.obj "View" (vfs b p c m'))) n p c b P C m' :=
  ⟨List.getElem?_set_self h.lt.1, by rw [List.getElem?_set_ne h.np]; exact h.pts, by rw [List.getElem?_set_ne h.nc]; exact h.cel⟩
theorem VS.setC (h : VS S n p c b P C m) (C' : List (K2 × CT)) : VS (S.set c (.dih (encC C'))) n p c b P C' m :=
  ⟨by rw [List.getElem?_set_ne (Ne.symm h.nc)]; exact h.obj, by rw [List.getElem?_set_ne (Ne.symm h.pc)]; exact h.pts, List.getElem?_set_self h.lt.2.2⟩
theorem VS.setP (h : VS S n p c b P C m) (P' : List Pt) : VS (S.set p (.dic (encI P'))) n p c b P' C m :=
  ⟨by rw [List.getElem?_set_ne (Ne.symm h.np)]; exact h.obj, List.getElem?_set_self h.lt.2.1, by rw [List.getElem?_set_ne h.pc]; exact h.cel⟩
theorem VS.lookC (h : VS S n p c b P C m) (k : K2) : dlook S (.ref c) (kD k) = some ((getA C k).map fun x => .d (cD x)) := by rw [dlook_dih _ h.cel (keyH_k k), get_encC]
theorem VS.isC (h : VS S n p c b P C m) : isDic S (.ref c) = true := isDic_dih _ h.cel
theorem VS.lookP (h : VS S n p c b P C m) (k : Int) : dlook S (.ref p) (.int k) = some ((getA P k).map fun x => .d (.int x)) := by rw [dlook_dic _ h.pts rfl, get_encI]
end
/-- what stays of a store: its length, and all cells but some -/
structure Ks (ns : List Nat) (S S' : Store) : Prop where
  len : S'.length = S.length
  get : ∀ i, i ∉ ns → S'[i]? = S[i]?
theorem Ks.refl (ns : List Nat) (S : Store) : Ks ns S S := ⟨rfl, fun _ _ => rfl⟩
theorem Ks.trans {ns : List Nat} {S S1 S2 : Store} (h1 : Ks ns S S1) (h2 : Ks ns S1 S2) : Ks ns S S2 := ⟨h2.len.trans h1.len, fun i hi => (h2.get i hi).trans (h1.get i hi)⟩
theorem Ks.set {ns : List Nat} {S S' : Store} (h : Ks ns S S') {i : Nat} (x : Cell) (hi : i ∈ ns) : Ks ns S (S'.set i x) :=
  ⟨by rw [List.length_set]; exact h.len, fun j hj => by
    have ne : i ≠ j := fun e => hj (by rw [← e]; exact hi)
    rw [List.getElem?_set_ne ne]; exact h.get j hj⟩
theorem w_put {S : Store} {n p c : Nat} {b m : Int} {P : List Pt} {C : List (K2 × CT)} (h : VS S n p c b P C m) (hC : C.length < 1000000) (l q : Int) (o : Option CT) :
    ∃ S', m_View_put [.ref n, .d (.int l), .d (.int q), .d (optC o)] S = .ok (.d .none) S' ∧ VS S' n p c b P (setA C (l, q) o) (m + 1) ∧ Ks [n, p, c] S S' := by
  have h1 := h.made (m + 1)
  have k1 : Ks [n, p, c] S (S.set n (.obj "View" (vfs b p c (m + 1)))) := (Ks.refl _ S).set _ (by simp)
  have e0 := h.setM (m + 1)
  generalize hS1 : S.set n (.obj "View" (vfs b p c (m + 1))) = S1 at *
  cases o with
  | some x =>
    refine ⟨_, ?_, h1.setC (putA C (l, q) x), k1.set _ (by simp)⟩
    unfold m_View_put
    rw [fnR_ev]
    have e1 := putH_at (x := kD (l, q)) (r := .d (cD x)) _ h1.cel (keyH_k _) (by unfold encC; rw [List.length_map, hz]; omega)
    rw [put_encC] at e1
    simp [startR, h.fM, e0, h1.fC, e1, hz]
  | none =>
    cases hg : getA C (l, q) with
    | none =>
      refine ⟨_, ?_, ?_, k1⟩
      rotate_left
      · show VS S1 n p c b P (dropA C (l, q)) (m + 1)
        rw [drop_none hg]
        exact h1
      unfold m_View_put
      rw [fnR_ev]
      have e2 := h1.lookC (l, q)
      rw [hg] at e2
      simp [startR, h.fM, e0, h1.fC, e2, hz]
    | some x =>
      refine ⟨_, ?_, h1.setC (dropA C (l, q)), k1.set _ (by simp)⟩
      unfold m_View_put
      rw [fnR_ev]
      have e2 := h1.lookC (l, q)
      rw [hg] at e2
      have e3 := popH_at (x := kD (l, q)) (r := .d (cD x)) _ h1.cel (keyH_k _) (by rw [get_encC, hg]; rfl)
      rw [drop_encC] at e3
      simp [startR, h.fM, e0, h1.fC, e2, e3, h1.isC, hz]
end G94

set_option Elab.async false
set_option linter.all false
set_option maxRecDepth 100000
/-! L94d: cells of tuples of points, cells joined, points sorted. -/
namespace G94
open PySem Pi
theorem ixLastT (xs : List D) (d : D) (h : xs.getLast? = some d) : ixD (.tuple xs) (.int (-1)) = some d := by
  have hl : 0 < xs.length := by
    cases xs with
    | nil => cases h
    | cons _ _ => simp
  have h1 : -(xs.length : Int) ≤ -1 := by omega
  have h2 : (-1 + (xs.length : Int)).toNat = xs.length - 1 := by omega
  rw [List.getLast?_eq_getElem?] at h
  simp [ixD, atD, L2.ixN, h1, h2, h]
theorem p_cell_of (pts : List Pt) (hl : pts.length ≤ 5000) (S : Store) : runP m_cell_of [.tuple (pts.map ptD)] S = .ok (.d (optC (optP pts))) S := by
  have hz : sizeLine = 16777216 := by decide
  refine runP_ok (S' := []) S ?_
  unfold m_cell_of
  rw [fnR_ev]
  cases pts with
  | nil =>
    have : eqD (.tuple []) (.tuple []) = some (.bool true) := rfl
    simp [startR, this, optP]
  | cons p r =>
    have h0 : eqD (.tuple ((p :: r).map ptD)) (.tuple []) = some (.bool false) := by
      rw [eqD_pure]
      · simp [PyData.eqv, PyData.eqvAll]
      · exact pureTs_map (fun x => by simp [pureT, pureTs]) _
      · rfl
      · rw [PyData.depth]
        have : PyData.depthAll ((p :: r).map ptD) ≤ 1 := depthAll_le fun x hx => by
          obtain ⟨y, _, rfl⟩ := List.mem_map.mp hx
          simp [PyData.depth, PyData.depthAll]
        omega
      · simp [PyData.depth, PyData.depthAll]
    have lc : ∀ ρ : Pi.Env, ρ.length = 4 → lcLoop ρ (gT [gN 2, gN 3]) mYes (mVar 3) ((p :: r).map ptD) [] = .ok (((p :: r).map (·.2)).map .int) [] := fun ρ hl => by
      rw [List.map_map]
      refine lc_all ptD fun x _ => ⟨(ρ.set 2 (some (.d (.int x.1)))).set 3 (some (.d (.int x.2))), ?_, ?_⟩
      · simp
      · have : ((ρ.set 2 (some (R.d (.int x.1)))).set 3 (some (R.d (.int x.2))))[3]? = some (some (R.d (.int x.2))) := List.getElem?_set_self (by simp; omega)
        simp [this]
    have hlast : ixD (.tuple ((p :: r).map ptD)) (.int (-1)) = some (ptD ((p :: r).getLastD (0, 0))) := by
      refine ixLastT _ _ ?_
      rw [List.getLast?_map, List.getLastD_eq_getLast?, List.getLast?_eq_some_getLast (by simp)]
      rfl
    have hfirst : ixD (.tuple ((p :: r).map ptD)) (.int 0) = some (ptD ((p :: r).headD (0, 0))) := by simp
    have hmin : minD [.list (((p :: r).map (·.2)).map .int)] = some (.int (minI ((p :: r).map (·.2)))) := by
      show minOf _ = _
      unfold minOf
      rw [intsD_map]
      rfl
    have hmax : maxD [.list (((p :: r).map (·.2)).map .int)] = some (.int (maxI ((p :: r).map (·.2)))) := by
      show maxOf _ = _
      unfold maxOf
      rw [intsD_map]
      rfl
    have hsum : sumD [.list (((p :: r).map (·.2)).map .int)] = some (.int (((p :: r).map (·.2)).sum)) := by
      show (intsD _).map _ = _
      rw [intsD_map]
      rfl
    have ho : optP (p :: r) = some (cellOf (p :: r)) := rfl
    generalize p :: r = q at *
    rw [List.map_map] at hmin hmax hsum
    have hl2 : q.length ≤ 16777216 := by omega
    simp [startR, h0, lc, hz, hl2, hfirst, hlast, hmin, hmax, hsum, ho, cellOf]
/-! cells joined, None among them -/
def joinO : Option CT → Option CT → Option CT
  | none, o => o
  | some x, none => some x
  | some x, some y => some (joinC x y)
theorem joinO_optP (p q : List Pt) : joinO (optP p) (optP q) = optP (p ++ q) := by
  cases p with
  | nil => rfl
  | cons x p =>
    cases q with
    | nil => rw [List.append_nil]; rfl
    | cons y q =>
      show some (joinC (cellOf (x :: p)) (cellOf (y :: q))) = _
      rw [join_app _ _ (by simp) (by simp)]
      rfl
theorem w_joinedO (o o' : Option CT) (S : Store) : m_joined [.d (optC o), .d (optC o')] S = .ok (.d (optC (joinO o o'))) S := by
  cases o with
  | none =>
    cases o' with
    | none => unfold m_joined; rw [fnR_ev]; simp [startR, joinO, isNoneD]
    | some y => exact w_joined0 y S
  | some x =>
    cases o' with
    | some y => exact w_joined x y S
    | none => unfold m_joined; rw [fnR_ev]; simp [startR, joinO, isNoneD]
theorem p_joinedO (o o' : Option CT) (S : Store) : runP m_joined [optC o, optC o'] S = .ok (.d (optC (joinO o o'))) S := runP_ok S (w_joinedO o o' [])
def joinL : Option CT → List (Option CT) → Option CT
  | o, [] => o
  | o, c :: r => joinL (joinO o c) r
theorem joinL_optP : ∀ (chs : List (List Pt)) (p : List Pt), joinL (optP p) (chs.map optP) = optP (p ++ chs.flatten)
  | [], p => by simp [joinL]
  | c :: chs, p => by
    show joinL (joinO (optP p) (optP c)) (chs.map optP) = _
    rw [joinO_optP, joinL_optP chs, List.flatten_cons, List.append_assoc]
theorem loop_joinL (S : Store) : ∀ (os : List (Option CT)) (x0 x2 : Option R) (o : Option CT), ∃ x2', forLoop (gN 2) (mAsg (gN 1) (mCallP m_joined (mCons (mVar 1) (mCons (mVar 2) mNil)))) (os.map optC) [x0, some (.d (optC o)), x2] S = .nx [x0, some (.d (optC (joinL o os))), x2'] S
  | [], x0, x2, o => ⟨x2, rfl⟩
  | c :: os, x0, x2, o => by
    obtain ⟨x2', ih⟩ := loop_joinL S os x0 (some (.d (optC c))) (joinO o c)
    refine ⟨x2', ?_⟩
    rw [List.map_cons, forLoop_cons]
    simp [p_joinedO] at ih ⊢
    simp [ih, joinL]
theorem p_joinL (os : List (Option CT)) (S : Store) : runP m_joined_all [.list (os.map optC)] S = .ok (.d (optC (joinL none os))) S := by
  refine runP_ok (S' := []) S ?_
  unfold m_joined_all
  rw [fnR_ev]
  obtain ⟨x2', h⟩ := loop_joinL [] os (some (.d (.list (os.map optC)))) none none
  simp at h
  simp [startR, h]
/-! points sorted -/
def srt (P : List Pt) : List Pt := sortBy leP P
theorem srt_perm (P : List Pt) : (srt P).Perm P := sortBy_perm P
theorem srt_len (P : List Pt) : (srt P).length = P.length := (srt_perm P).length_eq
theorem srt_up {P : List Pt} (h : (P.map (·.1)).Nodup) : Up (srt P) := sorted_up h
theorem up_eq {A B : List Pt} (ha : Up A) (hb : Up B) (p : A.Perm B) : A = B := List.Perm.eq_of_pairwise (le := fun p q : Pt => p.1 < q.1) (fun a b _ _ h1 h2 => by omega) ha hb p
theorem srt_filter {P : List Pt} (h : (P.map (·.1)).Nodup) (f : Pt → Bool) : srt (P.filter f) = (srt P).filter f :=
  up_eq (srt_up (h.sublist (List.filter_sublist.map _))) (List.Pairwise.sublist List.filter_sublist (srt_up h)) ((srt_perm _).trans ((srt_perm P).symm.filter f))
theorem ok_pts (l : List Pt) (h : l.length ≤ 1000000) : (okSort (l.map ptD) && noLs (l.map ptD)) = true := by
  have h2 : ∀ l : List Pt, noLs (l.map ptD) = true := fun l => by
    induction l with
    | nil => rfl
    | cons p r ih => rw [List.map_cons, noLs, ih]; simp [noL, noLs]
  rw [h2, Bool.and_true]
  unfold okSort
  simp only [Bool.and_eq_true, Bool.or_eq_true, List.all_eq_true, List.mem_map, decide_eq_true_eq, List.length_map]
  refine ⟨?_, .inl ?_, ?_, by rw [hz]; omega⟩
  · rintro _ ⟨p, _, rfl⟩ _ ⟨q, _, rfl⟩
    simp [PySem.W.alike, PySem.W.alikeAll]
  · rintro _ ⟨p, _, rfl⟩
    rfl
  · rintro _ ⟨p, _, rfl⟩
    simp [PyData.depth, PyData.depthAll]
theorem sorted_pts (l : List Pt) (h : l.length ≤ 1000000) : sortedD [.list (l.map ptD)] = some ((srt l).map ptD) := by
  show (if okSort (l.map ptD) = true then some (sortD (l.map ptD)) else none) = _
  rw [if_pos (Bool.and_eq_true_iff.mp (ok_pts l h)).1, sort_pts]
  rfl
end G94

set_option Elab.async false
set_option linter.all false
set_option maxRecDepth 100000
/-! L94e: the view's points walked; its cells made anew. -/
namespace G94
open PySem Pi
theorem set_back {S : Store} {p : Nat} {x y : Cell} (h : S[p]? = some y) : (S.set p x).set p y = S := by
  rw [List.set_set]
  exact List.ext_getElem? fun i => by
    by_cases e : p = i
    · subst e; rw [List.getElem?_set_self (List.getElem?_eq_some_iff.mp h).1, h]
    · rw [List.getElem?_set_ne e]
section
variable {S : Store} {n p c : Nat} {b m : Int} {P : List Pt} {C : List (K2 × CT)}
/-- the store while the points are walked -/
abbrev lk (S : Store) (p : Nat) (P : List Pt) : Store := S.set p (.lck (encI P))
theorem VS.lkO (h : VS S n p c b P C m) : (lk S p P)[n]? = some (.obj "View" (vfs b p c m)) := by rw [List.getElem?_set_ne (Ne.symm h.np)]; exact h.obj
theorem VS.lkP (h : VS S n p c b P C m) : (lk S p P)[p]? = some (.lck (encI P)) := List.getElem?_set_self h.lt.2.1
theorem VS.lkB (h : VS S n p c b P C m) : fldR (lk S p P) "View" G94.fB (.ref n) = some (.d (.int b)) := fld_at _ _ _ h.lkO (by rfl)
theorem VS.lkF (h : VS S n p c b P C m) : fldR (lk S p P) "View" G94.fP (.ref n) = some (.ref p) := fld_at _ _ _ h.lkO (by rfl)
theorem wipe2 {ρ : Pi.Env} {i j k : Nat} (h1 : k ≠ i) (h2 : k ≠ j) : (wipeR ρ [i, j])[k]? = ρ[k]? := by
  show ((ρ.set j none).set i none)[k]? = _
  rw [List.getElem?_set_ne (Ne.symm h1), List.getElem?_set_ne (Ne.symm h2)]
theorem wipe2_len {ρ : Pi.Env} {i j : Nat} : (wipeR ρ [i, j]).length = ρ.length := by
  show ((ρ.set j none).set i none).length = _
  simp
theorem lc_points (h : VS S n p c b P C m) (hl : P.length ≤ 100000) {ρ : Pi.Env} {i j : Nat} {cond : TM} {f : Pt → Bool} (h0 : ρ[0]? = some (some (.ref n))) (hi : i < ρ.length) (hj : j < ρ.length) (hij : i ≠ j) (hi0 : i ≠ 0) (hj0 : j ≠ 0)
    (hc : ∀ x ∈ P, cond (((wipeR ρ [i, j]).set i (some (.d (.int x.1)))).set j (some (.d (.int x.2)))) (lk S p P) = .ok (f x) (lk S p P)) :
    mLockL (mFld "View" fP (mVar 0)) (mLc (mItDK true (mFld "View" fP (mVar 0))) [i, j] (gT [gN i, gN j]) cond (mTup (mCons (mVar i) (mCons (mVar j) mNil)))) ρ S = .ok ((P.filter f).map ptD) S := by
  refine lock_of (n := p) (S0 := S) (S1 := lk S p P) (S2 := lk S p P) _ _ _ ?_ ?_ ?_ ?_
  · simp [h0, h.fP]
  · unfold lockS; rw [h.pts]
  · have e1 : mItDK true (mFld "View" fP (mVar 0)) ρ (lk S p P) = .ok (P.map ptD) (lk S p P) := itDK_of _ _ _ (n := p) (S1 := lk S p P) (kvs := encI P) (by simp [h0, h.lkF]) h.lkP (by show pairsR (encI P) = _; rw [pairs_enc])
    have e2 : lcLoop (wipeR ρ [i, j]) (gT [gN i, gN j]) cond (mTup (mCons (mVar i) (mCons (mVar j) mNil))) (P.map ptD) (lk S p P) = .ok ((P.filter f).map ptD) (lk S p P) := lc_of ptD fun x hx => by
      refine ⟨_, ?_, hc x hx, fun _ => ?_⟩
      · simp
      · have g1 : (((wipeR ρ [i, j]).set i (some (R.d (.int x.1)))).set j (some (R.d (.int x.2))))[i]? = some (some (.d (.int x.1))) := by
          rw [List.getElem?_set_ne (Ne.symm hij), List.getElem?_set_self (by rw [wipe2_len]; exact hi)]
        have g2 : (((wipeR ρ [i, j]).set i (some (R.d (.int x.1)))).set j (some (R.d (.int x.2))))[j]? = some (some (.d (.int x.2))) := List.getElem?_set_self (by rw [List.length_set, wipe2_len]; exact hj)
        generalize ((wipeR ρ [i, j]).set i (some (R.d (.int x.1)))).set j (some (R.d (.int x.2))) = ρ2 at g1 g2
        simp [g1, g2, hz]
    have e3 : ((P.filter f).map ptD).length ≤ sizeLine := by rw [List.length_map, hz]; have := List.length_filter_le f P; omega
    rw [mLc_ev, e1, Res.bind_ok, e2]
    simp only [noEx, Res.bind_ok, if_pos e3]
  · unfold unlockS
    rw [h.lkP]
    simp only
    rw [set_back h.pts]
end
end G94

set_option Elab.async false
set_option linter.all false
set_option maxRecDepth 100000
/-! L94f: what the cells of a view are. -/
namespace G94
open PySem Pi
/-- how wide a cell of a level is -/
def wd (b : Int) (l : Nat) : Int := b * 2 ^ l
theorem wd_pos {b : Int} (h : 0 < b) (l : Nat) : 0 < wd b l := Int.mul_pos h (Int.pow_pos (by decide))
theorem wd_succ (b : Int) (l : Nat) : wd b (l + 1) = wd b l * 2 := by
  unfold wd
  rw [Int.pow_succ, Int.mul_assoc]
/-- the points of a cell -/
def blk (b : Int) (A : List Pt) (l : Nat) (q : Int) : List Pt := rng (q * wd b l) ((q + 1) * wd b l) A
theorem in_blk {b : Int} (h : 0 < b) {l : Nat} {q t : Int} : (q * wd b l ≤ t ∧ t < (q + 1) * wd b l) ↔ t / wd b l = q := by
  have hw := wd_pos h l
  constructor
  · rintro ⟨h1, h2⟩
    have a1 : q ≤ t / wd b l := (Int.le_ediv_iff_mul_le hw).mpr h1
    have a2 : t / wd b l < q + 1 := (Int.ediv_lt_iff_lt_mul hw).mpr h2
    omega
  · rintro rfl
    exact ⟨Int.ediv_mul_le t (by omega), Int.lt_ediv_add_one_mul_self t hw⟩
theorem blk_eq {b : Int} (h : 0 < b) (A : List Pt) (l : Nat) (q : Int) : blk b A l q = A.filter fun p => decide (p.1 / wd b l = q) := by
  unfold blk rng
  refine List.filter_congr fun p _ => ?_
  rw [decide_eq_decide]
  exact in_blk h
theorem blk_up {b : Int} (h : 0 < b) {A : List Pt} (u : Up A) (l : Nat) (q : Int) : blk b A (l + 1) q = blk b A l (2 * q) ++ blk b A l (2 * q + 1) := by
  unfold blk
  have hw := wd_pos h l
  have e1 : q * wd b (l + 1) = 2 * q * wd b l := by rw [wd_succ]; rw [← Int.mul_assoc, Int.mul_comm (q * wd b l) 2, Int.mul_assoc]
  have e2 : (q + 1) * wd b (l + 1) = (2 * q + 1 + 1) * wd b l := by
    rw [wd_succ, ← Int.mul_assoc, Int.mul_comm ((q + 1) * wd b l) 2, ← Int.mul_assoc]
    congr 1
    omega
  rw [e1, e2]
  refine rng_split ?_ ?_ u
  · exact Int.mul_le_mul_of_nonneg_right (by omega) (by omega)
  · exact Int.mul_le_mul_of_nonneg_right (by omega) (by omega)
theorem div_up {b : Int} (h : 0 < b) (t : Int) (l : Nat) : t / wd b l / 2 = t / wd b (l + 1) := by
  rw [wd_succ, Int.ediv_ediv_of_nonneg (Int.le_of_lt (wd_pos h l))]
/-- the cells: the new points' below level j, the old points' from there on -/
structure MI (b : Int) (A A0 : List Pt) (C : List (K2 × CT)) (j : Nat) : Prop where
  nd : (C.map (·.1)).Nodup
  at_ : ∀ l q, getA C (l, q) = if 0 ≤ l ∧ l < 51 then optP (blk b (if l < j then A else A0) l.toNat q) else none
abbrev CI (b : Int) (A : List Pt) (C : List (K2 × CT)) : Prop := MI b A A C 0
theorem optP_ne {c : List Pt} (h : (optP c).isSome = true) : ∃ p, p ∈ c := by
  cases c with
  | nil => cases h
  | cons p r => exact ⟨p, List.mem_cons_self⟩
def keysU (b : Int) (A : List Pt) : List K2 := (List.range 51).flatMap fun l : Nat => A.map fun p : Pt => (((l : Nat) : Int), p.1 / wd b l)
theorem keysU_len (b : Int) (A : List Pt) : (keysU b A).length = 51 * A.length := by
  unfold keysU
  rw [List.length_flatMap]
  simp only [List.length_map, List.map_const', List.length_range, List.sum_replicate_nat]
theorem MI.len {b : Int} (hb : 0 < b) {A A0 : List Pt} {C : List (K2 × CT)} {j : Nat} (h : MI b A A0 C j) : C.length ≤ 51 * (A.length + A0.length) := by
  have : C.length = (C.map (·.1)).length := by simp
  rw [this]
  refine Nat.le_trans (List.Nodup.length_le_of_subset h.nd (l₂ := keysU b A ++ keysU b A0) fun k hk => ?_) (by rw [List.length_append, keysU_len, keysU_len]; omega)
  have hs := (mem_key C k).mp hk
  obtain ⟨l, q⟩ := k
  rw [h.at_] at hs
  split at hs
  · rename_i hl
    obtain ⟨p, hp⟩ := optP_ne hs
    have hl2 : l.toNat < 51 := by omega
    have hle : ((l.toNat : Nat) : Int) = l := by omega
    split at hp
    · rw [blk_eq hb] at hp
      obtain ⟨p1, p2⟩ := List.mem_filter.mp hp
      refine List.mem_append_left _ (List.mem_flatMap.mpr ⟨l.toNat, List.mem_range.mpr hl2, List.mem_map.mpr ⟨p, p1, ?_⟩⟩)
      rw [hle, of_decide_eq_true p2]
    · rw [blk_eq hb] at hp
      obtain ⟨p1, p2⟩ := List.mem_filter.mp hp
      refine List.mem_append_right _ (List.mem_flatMap.mpr ⟨l.toNat, List.mem_range.mpr hl2, List.mem_map.mpr ⟨p, p1, ?_⟩⟩)
      rw [hle, of_decide_eq_true p2]
  · cases hs
/-- a level made anew -/
theorem MI.step {b : Int} {A A0 : List Pt} {C : List (K2 × CT)} {j : Nat} (h : MI b A A0 C j) (hj : j < 51) {q0 : Int} (hd : ∀ q, q ≠ q0 → blk b A j q = blk b A0 j q) : MI b A A0 (setA C ((j : Int), q0) (optP (blk b A j q0))) (j + 1) where
  nd := nodup_set h.nd _ _
  at_ := fun l q => by
    rw [getA_set, h.at_]
    by_cases e : (l, q) = ((j : Int), q0)
    · cases e
      rw [if_pos rfl, if_pos (by omega), if_pos (by omega)]
      rfl
    · rw [if_neg e]
      by_cases hl : 0 ≤ l ∧ l < 51
      · rw [if_pos hl, if_pos hl]
        by_cases h1 : l < (j : Int)
        · rw [if_pos h1, if_pos (by omega)]
        · by_cases h2 : l = (j : Int)
          · subst h2
            have hq : q ≠ q0 := fun z => e (by rw [z])
            rw [if_neg h1, if_pos (by omega), Int.toNat_natCast, hd q hq]
          · rw [if_neg h1, if_neg (by omega)]
      · rw [if_neg hl, if_neg hl]
theorem MI.start {b : Int} {A0 : List Pt} {C : List (K2 × CT)} (A : List Pt) (h : CI b A0 C) : MI b A A0 C 0 := ⟨h.nd, fun l q => by
  rw [h.at_]
  by_cases hl : 0 ≤ l ∧ l < 51
  · rw [if_pos hl, if_pos hl, if_neg (by omega), if_neg (by omega)]
  · rw [if_neg hl, if_neg hl]⟩
theorem MI.done {b : Int} {A A0 : List Pt} {C : List (K2 × CT)} (h : MI b A A0 C 51) : CI b A C := ⟨h.nd, fun l q => by
  rw [h.at_]
  by_cases hl : 0 ≤ l ∧ l < 51
  · rw [if_pos hl, if_pos hl, if_pos (by omega), if_neg (by omega)]
  · rw [if_neg hl, if_neg hl]⟩
theorem CI.get {b : Int} {A : List Pt} {C : List (K2 × CT)} (h : CI b A C) {l : Nat} (hl : l < 51) (q : Int) : getA C ((l : Int), q) = optP (blk b A l q) := by
  rw [h.at_, if_pos (by omega), if_neg (by omega)]
  rfl
theorem MI.get {b : Int} {A A0 : List Pt} {C : List (K2 × CT)} {j : Nat} (h : MI b A A0 C j) {l : Nat} (hl : l < j) (hj : j ≤ 51) (q : Int) : getA C ((l : Int), q) = optP (blk b A l q) := by
  rw [h.at_, if_pos (by omega), if_pos (by omega)]
  rfl
end G94

set_option Elab.async false
set_option linter.all false
set_option maxRecDepth 100000
/-! L94g: renew. -/
namespace G94
open PySem Pi
section
variable {S : Store} {n p c : Nat} {b m : Int} {P : List Pt} {C : List (K2 × CT)}
theorem clsV (h : VS S n p c b P C m) (x : Str) (hx : (vfs b p c m).lookup x = none) : clsR S "View" x (.ref n) = true := clsR_at _ _ h.obj hx
theorem VS.kPut (h : VS S n p c b P C m) : clsR S "View" (Str.ofString "put") (.ref n) = true := clsV h _ (by rfl)
theorem VS.kRenew (h : VS S n p c b P C m) : clsR S "View" (Str.ofString "renew") (.ref n) = true := clsV h _ (by rfl)
theorem VS.kSpan (h : VS S n p c b P C m) : clsR S "View" (Str.ofString "span") (.ref n) = true := clsV h _ (by rfl)
theorem VS.kWrite (h : VS S n p c b P C m) : clsR S "View" (Str.ofString "write") (.ref n) = true := clsV h _ (by rfl)
theorem VS.kDelete (h : VS S n p c b P C m) : clsR S "View" (Str.ofString "delete") (.ref n) = true := clsV h _ (by rfl)
theorem VS.kAll (h : VS S n p c b P C m) : clsR S "View" (Str.ofString "all_cells") (.ref n) = true := clsV h _ (by rfl)
theorem VS.kCols (h : VS S n p c b P C m) : clsR S "View" (Str.ofString "columns") (.ref n) = true := clsV h _ (by rfl)
theorem VS.kWork (h : VS S n p c b P C m) : clsR S "View" (Str.ofString "work") (.ref n) = true := clsV h _ (by rfl)
end
theorem getD_cell (o : Option CT) : (o.map fun x => R.d (cD x)).getD (.d .none) = .d (optC o) := by cases o <;> rfl
theorem step_renew {S : Store} {n p c : Nat} {b m t : Int} {P A0 : List Pt} {C : List (K2 × CT)} (hb : 0 < b) (hP : (P.map (·.1)).Nodup) (hl : P.length ≤ 5000) (hl0 : A0.length ≤ 5000)
    (hd : ∀ l q, q ≠ t / wd b l → blk b (srt P) l q = blk b A0 l q) (k : Nat) (hk : k < 50) (h : VS S n p c b P C m) (hM : MI b (srt P) A0 C (k + 1)) (ht : 0 ≤ t ∧ t ≤ 1000000000000000) {ρ : Pi.Env} (hlen : ρ.length = 9)
    (h0 : ρ[0]? = some (some (.ref n))) (h2 : ρ[2]? = some (some (.d (.int (t / wd b k))))) (h5 : ρ[5]? = some (some (.d (.int (1 + (k : Int)))))) :
    ∃ S' C' ρ', Fr [2, 6] ρ ρ' ∧ ρ'[2]? = some (some (.d (.int (t / wd b (k + 1))))) ∧ b_View_renew_1 ρ S = .nx ρ' S' ∧ VS S' n p c b P C' (m + 1) ∧ MI b (srt P) A0 C' (k + 2) ∧ Ks [n, p, c] S S' := by
  have hw := wd_pos hb (k + 1)
  have q0 : 0 ≤ t / wd b (k + 1) := Int.ediv_nonneg ht.1 (by omega)
  have q1 : t / wd b (k + 1) ≤ t := Int.ediv_le_self _ ht.1
  have ediv : t / wd b k / 2 = t / wd b (k + 1) := div_up hb t k
  have hC : C.length < 1000000 := by have := hM.len hb; rw [srt_len] at this; omega
  have hup : Up (srt P) := srt_up hP
  have g1 := hM.get (l := k) (by omega) (by omega) (2 * (t / wd b (k + 1)))
  have g2 := hM.get (l := k) (by omega) (by omega) (2 * (t / wd b (k + 1)) + 1)
  have hj : joinL none [optP (blk b (srt P) k (2 * (t / wd b (k + 1)))), optP (blk b (srt P) k (2 * (t / wd b (k + 1)) + 1))] = optP (blk b (srt P) (k + 1) (t / wd b (k + 1))) := by
    have := joinL_optP [blk b (srt P) k (2 * (t / wd b (k + 1))), blk b (srt P) k (2 * (t / wd b (k + 1)) + 1)] []
    rw [blk_up hb hup]
    simpa [optP] using this
  obtain ⟨S', e1, e2, e3⟩ := w_put h hC (1 + (k : Int)) (t / wd b (k + 1)) (optP (blk b (srt P) (k + 1) (t / wd b (k + 1))))
  have hM2 := hM.step (j := k + 1) (by omega) (q0 := t / wd b (k + 1)) (hd (k + 1))
  have ek : ((k + 1 : Nat) : Int) = 1 + (k : Int) := by omega
  rw [ek] at hM2
  have lookC := h.lookC
  have d1 : divD (.int (t / wd b k)) (.int 2) = some (.int (t / wd b (k + 1))) := by rw [divD_int (by decide) (by decide), ediv]
  generalize t / wd b (k + 1) = Q at *
  have m1 : mulD (.int 2) (.int Q) = some (.int (2 * Q)) := mulD_int (mulOk_l (by omega))
  have f1 : Fr [2, 6] ρ ((ρ.set 2 (some (.d (.int Q)))).set 6 (some (.d (.list [optC (getA C ((k : Int), 2 * Q)), optC (getA C ((k : Int), 2 * Q + 1))])))) := ((Fr.refl _ ρ).set 2 _).set 6 _
  refine ⟨S', _, _, f1, by rw [List.getElem?_set_ne (by decide)]; exact List.getElem?_set_self (by omega), ?_, e2, hM2, e3⟩
  have l1 : (1 + (k : Int)) - 1 = (k : Int) := by omega
  have a0 : (ρ.set 2 (some (R.d (.int Q))))[0]? = _ := set_old h0
  have a5 : (ρ.set 2 (some (R.d (.int Q))))[5]? = _ := set_old h5
  have a2 : (ρ.set 2 (some (R.d (.int Q))))[2]? = some (some (.d (.int Q))) := set_get hlen (by decide)
  unfold b_View_renew_1
  refine seq_of (ρ1 := ρ.set 2 (some (.d (.int Q)))) (S1 := S) (by simp [h2, d1]) ?_
  have hl2 : (ρ.set 2 (some (R.d (.int Q)))).length = 9 := by simp [hlen]
  generalize ρ.set 2 (some (R.d (.int Q))) = ρ1 at *
  refine seq_of (ρ1 := ρ1.set 6 (some (.d (.list [optC (getA C ((k : Int), 2 * Q)), optC (getA C ((k : Int), 2 * Q + 1))])))) (S1 := S) ?_ ?_
  · have c1 := lookC ((k : Int), 2 * Q)
    have c2 := lookC ((k : Int), 2 * Q + 1)
    simp only [kD] at c1 c2
    simp [a0, a5, a2, h.fC, h.isC, l1, m1, hz, c1, c2, getD_cell]
  · rw [g1, g2]
    have pj := p_joinL [optP (blk b (srt P) k (2 * Q)), optP (blk b (srt P) k (2 * Q + 1))] S
    rw [hj] at pj
    have b0 : ∀ v, (ρ1.set 6 v)[0]? = _ := fun v => set_old a0
    have b5 : ∀ v, (ρ1.set 6 v)[5]? = _ := fun v => set_old a5
    have b2 : ∀ v, (ρ1.set 6 v)[2]? = _ := fun v => set_old a2
    have b6 : ∀ v, (ρ1.set 6 v)[6]? = some v := fun v => set_get hl2 (by decide)
    simp only [List.map_cons, List.map_nil] at pj
    simp [b0, b5, b2, b6, h.kPut, pj, e1]
theorem loop_renew {b t : Int} {n p c : Nat} {P A0 : List Pt} (hb : 0 < b) (hP : (P.map (·.1)).Nodup) (hl : P.length ≤ 5000) (hl0 : A0.length ≤ 5000) (hd : ∀ l q, q ≠ t / wd b l → blk b (srt P) l q = blk b A0 l q) (ht : 0 ≤ t ∧ t ≤ 1000000000000000) :
    ∀ (d k : Nat) (S : Store) (m : Int) (C : List (K2 × CT)) (ρ : Pi.Env), k + d = 50 → VS S n p c b P C m → MI b (srt P) A0 C (k + 1) → ρ.length = 9 → ρ[0]? = some (some (.ref n)) → ρ[2]? = some (some (.d (.int (t / wd b k)))) →
    ∃ S' C' ρ', forLoop (gN 5) b_View_renew_1 ((List.range' k d).map fun i : Nat => .int (1 + (i : Int))) ρ S = .nx ρ' S' ∧ VS S' n p c b P C' (m + d) ∧ MI b (srt P) A0 C' 51 ∧ Ks [n, p, c] S S'
  | 0, k, S, m, C, ρ, hk, h, hM, _, _, _ => by
    have : k = 50 := by omega
    subst this
    exact ⟨S, C, ρ, rfl, by simpa using h, hM, Ks.refl _ _⟩
  | d + 1, k, S, m, C, ρ, hk, h, hM, hlen, h0, h2 => by
    have hl1 : (ρ.set 5 (some (R.d (.int (1 + (k : Int)))))).length = 9 := by simp [hlen]
    obtain ⟨S1, C1, ρ1, f, e2, eb, v1, m1, k1⟩ := step_renew (t := t) hb hP hl hl0 hd k (by omega) h hM ht hl1 (set_old h0) (set_old h2) (set_get hlen (by decide))
    obtain ⟨S', C', ρ', e3, v2, m2, k2⟩ := loop_renew hb hP hl hl0 hd ht d (k + 1) S1 (m + 1) C1 ρ1 (by omega) v1 m1 (by rw [f.len, hl1]) (by rw [f.get 0 (by decide)]; exact set_old h0) e2
    refine ⟨S', C', ρ', ?_, (by rw [show m + ((d + 1 : Nat) : Int) = m + 1 + (d : Int) by omega]; exact v2), m2, k1.trans k2⟩
    rw [List.range'_succ, List.map_cons]
    exact forN_of eb e3
theorem w_renew {S : Store} {n p c : Nat} {b m t : Int} {P A0 : List Pt} {C : List (K2 × CT)} (hb : 0 < b ∧ b ≤ 1000000000) (hP : (P.map (·.1)).Nodup) (hl : P.length ≤ 5000) (hl0 : A0.length ≤ 5000)
    (hd : ∀ l q, q ≠ t / wd b l → blk b (srt P) l q = blk b A0 l q) (ht : 0 ≤ t ∧ t ≤ 1000000000000000) (h : VS S n p c b P C m) (hM : CI b A0 C) :
    ∃ S' C', m_View_renew [.ref n, .d (.int t)] S = .ok (.d .none) S' ∧ VS S' n p c b P C' (m + 51) ∧ CI b (srt P) C' ∧ Ks [n, p, c] S S' := by
  have hC : C.length < 1000000 := by have := hM.len hb.1; omega
  have w0 : wd b 0 = b := by simp [wd]
  have q0 : 0 ≤ t / b := Int.ediv_nonneg ht.1 (by omega)
  have q1 : t / b ≤ t := Int.ediv_le_self _ ht.1
  obtain ⟨S1, e1, v1, k1⟩ := w_put h hC 0 (t / b) (optP (blk b (srt P) 0 (t / b)))
  have M1 := (MI.start (srt P) hM).step (j := 0) (by decide) (q0 := t / b) (fun q hq => hd 0 q (by rw [w0]; exact hq))
  rw [Int.natCast_zero] at M1
  have lc : ∀ ρ : Pi.Env, ρ.length = 9 → ρ[0]? = some (some (.ref n)) → ρ[3]? = some (some (.d (.int (t / b * b)))) →
      mLockL (mFld "View" fP (mVar 0)) (mLc (mItDK true (mFld "View" fP (mVar 0))) [7, 8] (gT [gN 7, gN 8]) (mB (mChain leD ltD (mVar 3) (mVar 7) (mOp2 addD (mVar 3) (mFld "View" fB (mVar 0))))) (mTup (mCons (mVar 7) (mCons (mVar 8) mNil)))) ρ S =
        .ok ((P.filter fun x => decide (t / b * b ≤ x.1 ∧ x.1 < t / b * b + b)).map ptD) S := fun ρ hlen h0 h3 => lc_points h (by omega) h0 (by omega) (by omega) (by decide) (by decide) (by decide) fun x hx => by
    have g7 : (((wipeR ρ [7, 8]).set 7 (some (R.d (.int x.1)))).set 8 (some (R.d (.int x.2))))[7]? = some (some (.d (.int x.1))) := by
      rw [List.getElem?_set_ne (by decide), List.getElem?_set_self (by rw [wipe2_len]; omega)]
    have g3 : (((wipeR ρ [7, 8]).set 7 (some (R.d (.int x.1)))).set 8 (some (R.d (.int x.2))))[3]? = some (some (.d (.int (t / b * b)))) := by
      rw [List.getElem?_set_ne (by decide), List.getElem?_set_ne (by decide), wipe2 (by decide) (by decide)]; exact h3
    have g0 : (((wipeR ρ [7, 8]).set 7 (some (R.d (.int x.1)))).set 8 (some (R.d (.int x.2))))[0]? = some (some (.ref n)) := by
      rw [List.getElem?_set_ne (by decide), List.getElem?_set_ne (by decide), wipe2 (by decide) (by decide)]; exact h0
    generalize ((wipeR ρ [7, 8]).set 7 (some (R.d (.int x.1)))).set 8 (some (R.d (.int x.2))) = ρ2 at g7 g3 g0
    by_cases c1 : t / b * b ≤ x.1 <;> by_cases c2 : x.1 < t / b * b + b <;> simp [g7, g3, g0, h.lkB, c1, c2]
  have hown : srt (P.filter fun x => decide (t / b * b ≤ x.1 ∧ x.1 < t / b * b + b)) = blk b (srt P) 0 (t / b) := by
    rw [srt_filter hP]
    unfold blk rng
    rw [w0]
    have e : t / b * b + b = (t / b + 1) * b := by rw [Int.add_mul, Int.one_mul]
    rw [e]
  have hls : (P.filter fun x => decide (t / b * b ≤ x.1 ∧ x.1 < t / b * b + b)).length ≤ 1000000 := by have := List.length_filter_le (fun x : Pt => decide (t / b * b ≤ x.1 ∧ x.1 < t / b * b + b)) P; omega
  have hso := sorted_pts _ hls
  rw [hown] at hso
  have hbl : (blk b (srt P) 0 (t / b)).length ≤ 5000 := by
    have := List.length_filter_le (fun p : Pt => decide (t / b * wd b 0 ≤ p.1 ∧ p.1 < (t / b + 1) * wd b 0)) (srt P)
    rw [srt_len] at this
    exact Nat.le_trans this hl
  have hcell := p_cell_of (blk b (srt P) 0 (t / b)) hbl S
  have d1 : divD (.int t) (.int b) = some (.int (t / b)) := divD_int hb.1 (Int.lt_of_le_of_lt hb.2 (by decide))
  have m1 : mulD (.int (t / b)) (.int b) = some (.int (t / b * b)) := mulD_int (mulOk_l (by omega))
  have q2 : t / wd b 0 = t / b := by rw [w0]
  generalize P.filter (fun x => decide (t / b * b ≤ x.1 ∧ x.1 < t / b * b + b)) = own at *
  generalize blk b (srt P) 0 (t / b) = B at *
  have ev : ∀ x2 x3 x4 : Option R, ∀ i, i < 9 → (([some (R.ref n), some (.d (.int t)), x2, x3, x4, none, none, none, none] : Pi.Env)).length = 9 := fun _ _ _ _ _ => rfl
  obtain ⟨S2, C2, ρ2, e2, v2, M2, k2⟩ := loop_renew (t := t) hb.1 hP hl hl0 hd ht 50 0 S1 (m + 1) _ ([some (.ref n), some (.d (.int t)), some (.d (.int (t / b))), some (.d (.int (t / b * b))), some (.d (.list (B.map ptD))), none, none, none, none] : Pi.Env) rfl v1 M1 rfl rfl (by rw [q2]; rfl)
  refine ⟨S2, C2, ?_, (by rw [show m + 51 = m + 1 + ((50 : Nat) : Int) by omega]; exact v2), M2.done, k1.trans k2⟩
  have hr : range2 [.int 1, .int 51] = some ((List.range' 0 50).map fun i : Nat => .int (1 + (i : Int))) := by rw [range2_nat (by decide) (by decide)]; rfl
  have lcE := lc [some (.ref n), some (.d (.int t)), some (.d (.int (t / b))), some (.d (.int (t / b * b))), none, none, none, none, none] rfl rfl rfl
  have hol : (own.map ptD).length ≤ sizeLine := by rw [List.length_map, hz]; omega
  rw [m_View_renew_eq, fnR_ev]
  have run : (mSeq (mAsg (gN 2) (mOp2 divD (mVar 1) (mFld "View" (Str.ofString "base") (mVar 0))))
      (mSeq (mAsg (gN 3) (mOp2 mulD (mVar 2) (mFld "View" (Str.ofString "base") (mVar 0))))
      (mSeq (mAsg (gN 4) (mFrz (mCBL sortedD (mCons (mFrz (mLockL (mFld "View" (Str.ofString "points") (mVar 0)) (mLc (mItDK true (mFld "View" (Str.ofString "points") (mVar 0))) [7, 8] (gT [(gN 7), (gN 8)]) (mB (mChain leD ltD (mVar 3) (mVar 7) (mOp2 addD (mVar 3) (mFld "View" (Str.ofString "base") (mVar 0))))) (mTup (mCons (mVar 7) (mCons (mVar 8) mNil)))))) mNil))))
      (mSeq (mExpr (mMeth "View" (Str.ofString "put") m_View_put (mVar 0) (mCons (mD (.int 0)) (mCons (mVar 2) (mCons (mCallP m_cell_of (mCons (mCB tupleD (mCons (mVar 4) mNil)) mNil)) mNil)))))
      f_View_renew_1)))) (startR 9 [.ref n, .d (.int t)]) S = .nx ρ2 S2 := by
    refine seq_of (ρ1 := [some (.ref n), some (.d (.int t)), some (.d (.int (t / b))), none, none, none, none, none, none]) (S1 := S) (by simp [startR, h.fB, d1]) ?_
    refine seq_of (ρ1 := [some (.ref n), some (.d (.int t)), some (.d (.int (t / b))), some (.d (.int (t / b * b))), none, none, none, none, none]) (S1 := S) (by simp [h.fB, m1]) ?_
    refine seq_of (ρ1 := [some (.ref n), some (.d (.int t)), some (.d (.int (t / b))), some (.d (.int (t / b * b))), some (.d (.list (B.map ptD))), none, none, none, none]) (S1 := S) ?_ ?_
    · rw [mAsg_ev, mFrz_ev, mCBL_ev, mCons_ev, mFrz_ev, lcE]
      simp [hso]
    refine seq_of (ρ1 := [some (.ref n), some (.d (.int t)), some (.d (.int (t / b))), some (.d (.int (t / b * b))), some (.d (.list (B.map ptD))), none, none, none, none]) (S1 := S1) ?_ ?_
    · simp [h.kPut, hcell, e1]
    · refine mFor_of (ds := (List.range' 0 50).map fun i : Nat => .int (1 + (i : Int))) (S1 := S1) ?_ e2
      simp only [mItA_ev, mCons_ev, mD_ev, mNil_ev, Res.bind_ok, allD_cons, allD_nil, Option.map_some, optB_some, hr]
  rw [run]
  rfl
end G94

set_option Elab.async false
set_option linter.all false
set_option maxRecDepth 100000
set_option exponentiation.threshold 5000
/-! L94h: a view made, written, deleted from. -/
namespace G94
open PySem Pi
theorem p_need_base {b : Int} (h : 1 ≤ b ∧ b ≤ 1000000000) (S : Store) : runP m_need_base [.int b] S = .ok (.d .none) S := by
  refine runP_ok (S' := []) S ?_
  unfold m_need_base
  rw [fnR_ev]
  have hp : powD (.int 10) (.int 9) = some (.int 1000000000) := rfl
  simp [startR, hp, p_whole, truD, h.1, h.2]
theorem w_init (S : Store) {b : Int} (h : 1 ≤ b ∧ b ≤ 1000000000) : m_View___init__ [.ref S.length, .d (.int b)] (S ++ [.obj "View" []]) = .ok (.d .none) (S ++ [.obj "View" (vfs b (S.length + 1) (S.length + 2) 0), .dic [], .dih []]) := by
  unfold m_View___init__
  rw [fnR_ev]
  have len1 : (S ++ [Cell.obj "View" []]).length = S.length + 1 := by simp
  have len2 : (S ++ [Cell.obj "View" []] ++ [Cell.dic []]).length = S.length + 2 := by simp
  have at_ : ∀ fs, (S ++ [Cell.obj "View" fs] ++ [Cell.dic []] ++ [Cell.dih []])[S.length]? = some (.obj "View" fs) := fun fs => by simp
  have st : ∀ fs fs', (S ++ [Cell.obj "View" fs] ++ [Cell.dic []] ++ [Cell.dih []]).set S.length (.obj "View" fs') = S ++ [Cell.obj "View" fs'] ++ [Cell.dic []] ++ [Cell.dih []] := fun fs fs' => by simp
  have run : ∀ (ρ : Pi.Env) (f : Str) (fs : List (Str × R)) (r : R), ρ[0]? = some (some (.ref S.length)) → fs.length < 1000 → gFld "View" f (mVar 0) r ρ (S ++ [Cell.obj "View" fs] ++ [Cell.dic []] ++ [Cell.dih []]) = some (ρ, S ++ [Cell.obj "View" (putFs f r fs)] ++ [Cell.dic []] ++ [Cell.dih []]) := fun ρ f fs r h0 hl => by
    refine gFld_of _ _ _ _ _ (ro := .ref S.length) (S1 := S ++ [Cell.obj "View" fs] ++ [Cell.dic []] ++ [Cell.dih []]) (by simp [h0]) ?_
    rw [setF_at _ _ _ (at_ fs) hl, st]
  have e0 : mSeq (mExpr (mCallP m_need_base (mCons (mVar 1) mNil))) (mAsgR [(gFld "View" (Str.ofString "base") (mVar 0)), (gFld "View" (Str.ofString "points") (mVar 0)), (gFld "View" (Str.ofString "cells") (mVar 0)), (gFld "View" (Str.ofString "made") (mVar 0))] (mCons (mVar 1) (mCons mDic0 (mCons mDicH0 (mCons (mD (.int 0)) mNil))))) (startR 2 [.ref S.length, .d (.int b)]) (S ++ [.obj "View" []]) =
      .nx [some (.ref S.length), some (.d (.int b))] (S ++ [Cell.obj "View" (vfs b (S.length + 1) (S.length + 2) 0)] ++ [Cell.dic []] ++ [Cell.dih []]) := by
    refine seq_of (ρ1 := [some (.ref S.length), some (.d (.int b))]) (S1 := S ++ [.obj "View" []]) (by simp [startR, p_need_base h]) ?_
    have ea : (mCons (mVar 1) (mCons mDic0 (mCons mDicH0 (mCons (mD (.int 0)) mNil)))) [some (.ref S.length), some (.d (.int b))] (S ++ [.obj "View" []]) = .ok [.d (.int b), .ref (S.length + 1), .ref (S.length + 2), .d (.int 0)] (S ++ [Cell.obj "View" []] ++ [Cell.dic []] ++ [Cell.dih []]) := by
      simp
    rw [mAsgR_ev, ea, Res.out_ok, if_pos (show [R.d (.int b), R.ref (S.length + 1), R.ref (S.length + 2), R.d (.int 0)].length ≤ sizeLine from (by show 4 ≤ sizeLine; decide))]
    rw [gAllR_cons, run _ _ _ _ rfl (by decide), Option.bind_some, gAllR_cons, run _ _ _ _ rfl (by show 1 < 1000; decide), Option.bind_some, gAllR_cons, run _ _ _ _ rfl (by show 2 < 1000; decide), Option.bind_some, gAllR_cons, run _ _ _ _ rfl (by show 3 < 1000; decide), Option.bind_some, gAllR_nil]
    rfl
  rw [e0]
  simp
theorem VS.new (S : Store) (b : Int) : VS (S ++ [.obj "View" (vfs b (S.length + 1) (S.length + 2) 0), .dic [], .dih []]) S.length (S.length + 1) (S.length + 2) b [] [] 0 :=
  ⟨by simp, by rw [List.getElem?_append_right (by omega)]; simp [encI], by rw [List.getElem?_append_right (by omega)]; simp [encC]⟩
theorem CI.new (b : Int) : CI b [] [] := ⟨by simp, fun l q => by
  rw [getA_nil]
  split <;> simp [blk, rng, optP]⟩
theorem w_make (S : Store) {b : Int} (h : 1 ≤ b ∧ b ≤ 1000000000) (am : AM) (ρ : Pi.Env) (S0 : Store) (ha : am ρ S0 = .ok [.d (.int b)] S) : mMake "View" m_View___init__ am ρ S0 = .ok (.ref S.length) (S ++ [.obj "View" (vfs b (S.length + 1) (S.length + 2) 0), .dic [], .dih []]) := by
  rw [mMake_ev, ha, Res.bind_ok, w_init S h, Res.bind_ok, endMk_none]
/-! written, deleted -/
theorem filt_put (P : List Pt) (t v : Int) {f : Int → Bool} (h : f t = false) : (putA P t v).filter (fun p => f p.1) = P.filter fun p => f p.1 := by
  unfold putA
  split
  · rw [List.filter_map]
    have e1 : P.filter ((fun p : Pt => f p.1) ∘ fun p : Pt => if p.1 = t then (p.1, v) else p) = P.filter fun p => f p.1 := List.filter_congr fun p _ => by
      show f (if p.1 = t then (p.1, v) else p).1 = f p.1
      split <;> rfl
    rw [e1]
    refine (List.map_congr_left (g := id) fun p hp => ?_).trans (List.map_id _)
    have := (List.mem_filter.mp hp).2
    have ne : ¬ p.1 = t := fun e => by rw [e, h] at this; cases this
    rw [if_neg ne]
    rfl
  · rw [List.filter_append]
    simp [h]
theorem filt_drop (P : List Pt) (t : Int) {f : Int → Bool} (h : f t = false) : (dropA P t).filter (fun p => f p.1) = P.filter fun p => f p.1 := by
  unfold dropA
  rw [List.filter_filter]
  refine List.filter_congr fun p _ => ?_
  by_cases e : p.1 = t
  · rw [e, h]; rfl
  · simp [e]
/-- points of a view -/
structure Ps (P : List Pt) : Prop where
  nd : (P.map (·.1)).Nodup
  bd : ∀ p ∈ P, (0 ≤ p.1 ∧ p.1 ≤ 1000000000000000) ∧ (-1000000000000 ≤ p.2 ∧ p.2 ≤ 1000000000000)
theorem Ps.nil : Ps [] := ⟨by simp, by simp⟩
theorem mem_put {P : List Pt} {t v : Int} {p : Pt} (h : p ∈ putA P t v) : p ∈ P ∨ p = (t, v) := by
  unfold putA at h
  split at h
  · obtain ⟨q, h1, rfl⟩ := List.mem_map.mp h
    split
    · rename_i e; right; rw [e]
    · exact .inl h1
  · rcases List.mem_append.mp h with h | h
    · exact .inl h
    · right; simpa using h
theorem Ps.put {P : List Pt} (h : Ps P) {t v : Int} (ht : 0 ≤ t ∧ t ≤ 1000000000000000) (hv : -1000000000000 ≤ v ∧ v ≤ 1000000000000) : Ps (putA P t v) := ⟨nodup_put h.nd _ _, fun p hp => by
  rcases mem_put hp with hp | rfl
  · exact h.bd p hp
  · exact ⟨ht, hv⟩⟩
theorem Ps.filter {P : List Pt} (h : Ps P) (f : Pt → Bool) : Ps (P.filter f) := ⟨h.nd.sublist (List.filter_sublist.map _), fun p hp => h.bd p (List.mem_filter.mp hp).1⟩
theorem blk_put {b : Int} (hb : 0 < b) {P : List Pt} (h : (P.map (·.1)).Nodup) (t v : Int) (l : Nat) (q : Int) (hq : q ≠ t / wd b l) : blk b (srt (putA P t v)) l q = blk b (srt P) l q := by
  rw [blk_eq hb, blk_eq hb, ← srt_filter h, ← srt_filter (nodup_put h t v)]
  congr 1
  exact filt_put P t v (f := fun x => decide (x / wd b l = q)) (decide_eq_false fun e => hq e.symm)
theorem blk_drop {b : Int} (hb : 0 < b) {P : List Pt} (h : (P.map (·.1)).Nodup) (t : Int) (l : Nat) (q : Int) (hq : q ≠ t / wd b l) : blk b (srt (dropA P t)) l q = blk b (srt P) l q := by
  rw [blk_eq hb, blk_eq hb, ← srt_filter h, ← srt_filter (nodup_drop h t)]
  congr 1
  exact filt_drop P t (f := fun x => decide (x / wd b l = q)) (decide_eq_false fun e => hq e.symm)
theorem w_write {S : Store} {n p c : Nat} {b m : Int} {P : List Pt} {C : List (K2 × CT)} (hb : 0 < b ∧ b ≤ 1000000000) (hP : Ps P) (hl : P.length ≤ 4000) {t v : Int} (ht : 0 ≤ t ∧ t ≤ 1000000000000000) (hv : -1000000000000 ≤ v ∧ v ≤ 1000000000000)
    (h : VS S n p c b P C m) (hM : CI b (srt P) C) :
    ∃ S' C', m_View_write [.ref n, .d (.int t), .d (.int v)] S = .ok (.d .none) S' ∧ VS S' n p c b (putA P t v) C' (m + 51) ∧ CI b (srt (putA P t v)) C' ∧ Ks [n, p, c] S S' := by
  have h1 := h.setP (putA P t v)
  have hPn := (hP.put ht hv).nd
  have hl2 := len_put P t v
  have k1 : Ks [n, p, c] S (S.set p (.dic (encI (putA P t v)))) := (Ks.refl _ S).set _ (by simp)
  obtain ⟨S', C', e1, v1, M1, k2⟩ := w_renew (t := t) hb hPn (by omega) (by rw [srt_len]; omega) (blk_put hb.1 hP.nd t v) ht h1 hM
  refine ⟨S', C', ?_, v1, M1, k1.trans k2⟩
  have hf : fitsP (t, v) = true := by simp [fitsP, ht.1, ht.2, hv.1, hv.2]
  have pf := p_fits_point (t, v) S
  rw [hf] at pf
  have hput : putR S (.ref p) (.d (.int t)) (.d (.int v)) = some (S.set p (.dic (encI (putA P t v)))) := by
    unfold putR
    simp only [h.pts]
    have hlt : (encI P).length < sizeLine := by unfold encI; rw [List.length_map, hz]; omega
    show (if (encI P).length < sizeLine then some (S.set p (.dic (putKv (encI P) (.int t) (.d (.int v))))) else none) = _
    rw [if_pos hlt, put_enc, putI_eq]
  have lk := h.lookP t
  have ln := lenK_at _ h.pts
  have hle : ((encI P).length : Int) ≠ 4096 := by unfold encI; rw [List.length_map]; omega
  unfold m_View_write
  rw [fnR_ev]
  cases hg : getA P t with
  | none =>
    rw [hg] at lk
    simp [startR, pf, h.fP, h1.kRenew, lk, ln, hle, hput, e1, truD, hz]
  | some w =>
    rw [hg] at lk
    simp [startR, pf, h.fP, h1.kRenew, lk, ln, hle, hput, e1, truD, hz]
/-! the keys walked -/
theorem lc_times {S : Store} {n p c : Nat} {b m : Int} {P : List Pt} {C : List (K2 × CT)} (h : VS S n p c b P C m) (hl : P.length ≤ 100000) {ρ : Pi.Env} {i : Nat} {cond : TM} {f : Pt → Bool} (h0 : ρ[0]? = some (some (.ref n))) (hi : i < ρ.length) (hi0 : i ≠ 0)
    (hc : ∀ x ∈ P, cond ((wipeR ρ [i]).set i (some (.d (.int x.1)))) (lk S p P) = .ok (f x) (lk S p P)) :
    mLockL (mFld "View" fP (mVar 0)) (mLc (mItDK false (mFld "View" fP (mVar 0))) [i] (gN i) cond (mVar i)) ρ S = .ok ((P.filter f).map fun x => .int x.1) S := by
  refine lock_of (n := p) (S0 := S) (S1 := lk S p P) (S2 := lk S p P) _ _ _ ?_ ?_ ?_ ?_
  · simp [h0, h.fP]
  · unfold lockS; rw [h.pts]
  · have e1 : mItDK false (mFld "View" fP (mVar 0)) ρ (lk S p P) = .ok (P.map fun x => .int x.1) (lk S p P) := itDK_of _ _ _ (n := p) (S1 := lk S p P) (kvs := encI P) (by simp [h0, h.lkF]) h.lkP (by show some ((encI P).map (·.1)) = _; unfold encI; rw [List.map_map]; rfl)
    have e2 : lcLoop (wipeR ρ [i]) (gN i) cond (mVar i) (P.map fun x => .int x.1) (lk S p P) = .ok ((P.filter f).map fun x => .int x.1) (lk S p P) := lc_of (fun x : Pt => PyData.int x.1) fun x hx => by
      refine ⟨_, gN_ev .., hc x hx, fun _ => ?_⟩
      have g1 : ((wipeR ρ [i]).set i (some (R.d (.int x.1))))[i]? = some (some (.d (.int x.1))) := List.getElem?_set_self (by show i < (ρ.set i none).length; rw [List.length_set]; exact hi)
      generalize (wipeR ρ [i]).set i (some (R.d (.int x.1))) = ρ2 at g1
      simp [g1]
    have e3 : ((P.filter f).map fun x => PyData.int x.1).length ≤ sizeLine := by rw [List.length_map, hz]; have := List.length_filter_le f P; omega
    rw [mLc_ev, e1, Res.bind_ok, e2]
    simp only [noEx, Res.bind_ok, if_pos e3]
  · unfold unlockS
    rw [h.lkP]
    simp only
    rw [set_back h.pts]
theorem p_need_span {lo hi : Int} (h : 0 ≤ lo ∧ lo ≤ hi ∧ hi ≤ 1000000000000000) (S : Store) : runP m_need_span [.int lo, .int hi] S = .ok (.d .none) S := by
  refine runP_ok (S' := []) S ?_
  have pt : ∀ S, runP m_fits_time [.int lo] S = .ok (.d (.bool true)) S := fun S => runP_ok (S' := []) S (by
    unfold m_fits_time
    rw [fnR_ev]
    have a : lo ≤ 1000000000000000 := by omega
    simp [startR, p_whole, h.1, a])
  unfold m_need_span
  rw [fnR_ev]
  simp [startR, pt, p_whole, truD, h.2.1, h.2.2]
theorem step_delete {S : Store} {n p c : Nat} {b m : Int} {P : List Pt} {C : List (K2 × CT)} (hb : 0 < b ∧ b ≤ 1000000000) (hP : Ps P) (hl : P.length ≤ 4000) {t v : Int} (hg : getA P t = some v) (h : VS S n p c b P C m) (hM : CI b (srt P) C) {ρ : Pi.Env} (h0 : ρ[0]? = some (some (.ref n))) (h4 : ρ[4]? = some (some (.d (.int t)))) :
    ∃ S' C', b_View_delete_1 ρ S = .nx ρ S' ∧ VS S' n p c b (dropA P t) C' (m + 51) ∧ CI b (srt (dropA P t)) C' ∧ Ks [n, p, c] S S' := by
  have h1 := h.setP (dropA P t)
  have hPn := nodup_drop hP.nd t
  have hl2 : (dropA P t).length ≤ P.length := List.length_filter_le _ _
  have k1 : Ks [n, p, c] S (S.set p (.dic (encI (dropA P t)))) := (Ks.refl _ S).set _ (by simp)
  have hmem := (mem_get hP.nd).mpr hg
  have ht := (hP.bd _ hmem).1
  obtain ⟨S', C', e1, v1, M1, k2⟩ := w_renew (t := t) hb hPn (by omega) (by rw [srt_len]; omega) (blk_drop hb.1 hP.nd t) ht h1 hM
  refine ⟨S', C', ?_, v1, M1, k1.trans k2⟩
  have hpop := popK_at (x := .int t) (r := .d (.int v)) _ h.pts rfl (by rw [get_encI, hg]; rfl)
  rw [drop_encI] at hpop
  unfold b_View_delete_1
  simp [h0, h4, h.fP, isDic_dic _ h.pts, hpop, h1.kRenew, e1]
theorem loop_delete {n p c : Nat} {b : Int} (hb : 0 < b ∧ b ≤ 1000000000) : ∀ (ts : List Int) (S : Store) (m : Int) (P : List Pt) (C : List (K2 × CT)) (ρ : Pi.Env), Ps P → P.length ≤ 4000 → ts.Nodup → (∀ t ∈ ts, (getA P t).isSome) → VS S n p c b P C m → CI b (srt P) C → ρ.length = 5 → ρ[0]? = some (some (.ref n)) →
    ∃ S' C' ρ', Fr [4] ρ ρ' ∧ forLoop (gN 4) b_View_delete_1 (ts.map .int) ρ S = .nx ρ' S' ∧ VS S' n p c b (ts.foldl dropA P) C' (m + 51 * (ts.length : Int)) ∧ CI b (srt (ts.foldl dropA P)) C' ∧ Ks [n, p, c] S S'
  | [], S, m, P, C, ρ, hP, hl, hn, hm, h, hM, hlen, h0 => ⟨S, C, ρ, Fr.refl _ _, rfl, by simpa using h, hM, Ks.refl _ _⟩
  | t :: ts, S, m, P, C, ρ, hP, hl, hn, hm, h, hM, hlen, h0 => by
    obtain ⟨v, hv⟩ := Option.isSome_iff_exists.mp (hm t List.mem_cons_self)
    have f1 : Fr [4] ρ (ρ.set 4 (some (.d (.int t)))) := (Fr.refl _ ρ).set 4 _
    obtain ⟨S1, C1, e1, v1, M1, k1⟩ := step_delete hb hP hl hv h hM (ρ := ρ.set 4 (some (.d (.int t)))) (set_old h0) (set_get hlen (by decide))
    obtain ⟨n1, n2⟩ := List.nodup_cons.mp hn
    have hl2 : (dropA P t).length ≤ P.length := List.length_filter_le _ _
    obtain ⟨S', C', ρ', f2, e2, v2, M2, k2⟩ := loop_delete hb ts S1 (m + 51) (dropA P t) C1 (ρ.set 4 (some (.d (.int t)))) (hP.filter _) (by omega) n2 (fun x hx => by
      rw [getA_drop, if_neg (fun e => n1 (by rw [← e]; exact hx))]
      exact hm x (List.mem_cons_of_mem _ hx)) v1 M1 (by rw [f1.len]; exact hlen) (by rw [f1.get 0 (by decide)]; exact h0)
    refine ⟨S', C', ρ', f1.trans f2, by rw [List.map_cons]; exact forN_of e1 e2, ?_, M2, k1.trans k2⟩
    rw [show m + 51 * ((t :: ts).length : Int) = m + 51 + 51 * (ts.length : Int) by rw [List.length_cons]; omega]
    exact v2
theorem foldl_drop : ∀ (ts : List Int) (P : List Pt), ts.foldl dropA P = P.filter fun p => !decide (p.1 ∈ ts)
  | [], P => by simp [List.filter_eq_self.mpr]
  | t :: ts, P => by
    rw [List.foldl_cons, foldl_drop ts]
    unfold dropA
    rw [List.filter_filter]
    refine List.filter_congr fun p _ => ?_
    by_cases e : p.1 = t <;> simp [e]
theorem w_delete {S : Store} {n p c : Nat} {b m : Int} {P : List Pt} {C : List (K2 × CT)} (hb : 0 < b ∧ b ≤ 1000000000) (hP : Ps P) (hl : P.length ≤ 4000) {lo hi : Int} (hs : 0 ≤ lo ∧ lo ≤ hi ∧ hi ≤ 1000000000000000) (h : VS S n p c b P C m) (hM : CI b (srt P) C) :
    ∃ S' C', m_View_delete [.ref n, .d (.int lo), .d (.int hi)] S = .ok (.d (.int ((P.filter fun p => decide (lo ≤ p.1 ∧ p.1 ≤ hi)).length : Nat))) S' ∧ VS S' n p c b (P.filter fun p => !decide (lo ≤ p.1 ∧ p.1 ≤ hi)) C' (m + 51 * ((P.filter fun p => decide (lo ≤ p.1 ∧ p.1 ≤ hi)).length : Nat)) ∧
      CI b (srt (P.filter fun p => !decide (lo ≤ p.1 ∧ p.1 ≤ hi))) C' ∧ Ks [n, p, c] S S' := by
  have lc : mLockL (mFld "View" fP (mVar 0)) (mLc (mItDK false (mFld "View" fP (mVar 0))) [4] (gN 4) (mB (mChain leD leD (mVar 1) (mVar 4) (mVar 2))) (mVar 4)) [some (.ref n), some (.d (.int lo)), some (.d (.int hi)), none, none] S = .ok ((P.filter fun p => decide (lo ≤ p.1 ∧ p.1 ≤ hi)).map fun x => .int x.1) S :=
    lc_times h (by omega) rfl (show 4 < 5 by decide) (by decide) fun x hx => by
      show mB _ [some (.ref n), some (.d (.int lo)), some (.d (.int hi)), none, some (.d (.int x.1))] _ = _
      by_cases c1 : lo ≤ x.1 <;> by_cases c2 : x.1 ≤ hi <;> simp [c1, c2]
  have hgone : ((P.filter fun p => decide (lo ≤ p.1 ∧ p.1 ≤ hi)).map (·.1)).Nodup := hP.nd.sublist (List.filter_sublist.map _)
  have hin : ∀ t ∈ (P.filter fun p => decide (lo ≤ p.1 ∧ p.1 ≤ hi)).map (·.1), (getA P t).isSome := fun t ht => by
    refine (mem_key P t).mp ?_
    obtain ⟨q, h1, h2⟩ := List.mem_map.mp ht
    exact List.mem_map.mpr ⟨q, (List.mem_filter.mp h1).1, h2⟩
  obtain ⟨S', C', ρ', f, e, v1, M1, k1⟩ := loop_delete hb _ S m P C ([some (.ref n), some (.d (.int lo)), some (.d (.int hi)), some (.d (.list ((P.filter fun p => decide (lo ≤ p.1 ∧ p.1 ≤ hi)).map fun x => .int x.1))), none] : Pi.Env) hP hl hgone hin h hM rfl rfl
  have hend : ((P.filter fun p => decide (lo ≤ p.1 ∧ p.1 ≤ hi)).map (·.1)).foldl dropA P = P.filter fun p => !decide (lo ≤ p.1 ∧ p.1 ≤ hi) := by
    rw [foldl_drop]
    refine List.filter_congr fun p hp => ?_
    congr 1
    rw [decide_eq_decide]
    constructor
    · intro hx
      obtain ⟨q, h1, h2⟩ := List.mem_map.mp hx
      rw [← h2]
      exact of_decide_eq_true (List.mem_filter.mp h1).2
    · intro hx
      exact List.mem_map.mpr ⟨p, List.mem_filter.mpr ⟨hp, decide_eq_true hx⟩, rfl⟩
  rw [hend] at v1 M1
  rw [List.length_map] at v1
  refine ⟨S', C', ?_, v1, M1, k1⟩
  rw [m_View_delete_eq, fnR_ev]
  have g3 := f.get 3 (by decide)
  have run : (mSeq (mExpr (mCallP m_need_span (mCons (mVar 1) (mCons (mVar 2) mNil))))
      (mSeq (mSetL 3 (mLockL (mFld "View" (Str.ofString "points") (mVar 0)) (mLc (mItDK false (mFld "View" (Str.ofString "points") (mVar 0))) [4] (gN 4) (mB (mChain leD leD (mVar 1) (mVar 4) (mVar 2))) (mVar 4))))
      (mSeq f_View_delete_1 (mRet (mCB lenD (mCons (mVar 3) mNil)))))) (startR 5 [.ref n, .d (.int lo), .d (.int hi)]) S = .rt (.d (.int ((P.filter fun p => decide (lo ≤ p.1 ∧ p.1 ≤ hi)).length : Nat))) S' := by
    refine seq_of (ρ1 := [some (.ref n), some (.d (.int lo)), some (.d (.int hi)), none, none]) (S1 := S) (by simp [startR, p_need_span hs]) ?_
    refine seq_of (ρ1 := [some (.ref n), some (.d (.int lo)), some (.d (.int hi)), some (.d (.list ((P.filter fun p => decide (lo ≤ p.1 ∧ p.1 ≤ hi)).map fun x => .int x.1))), none]) (S1 := S) ?_ ?_
    · rw [mSetL_ev, lc]
      rfl
    refine seq_of (ρ1 := ρ') (S1 := S') (mFor_of (ds := ((P.filter fun p => decide (lo ≤ p.1 ∧ p.1 ≤ hi)).map (·.1)).map .int) (S1 := S) ?_ e) ?_
    · simp [List.map_map, Function.comp_def]
    · have g3' : ρ'[3]? = some (some (.d (.list ((P.filter fun p => decide (lo ≤ p.1 ∧ p.1 ≤ hi)).map fun x => .int x.1)))) := g3
      simp [g3']
  rw [run]
  rfl
end G94

set_option Elab.async false
set_option linter.all false
set_option maxRecDepth 100000
set_option exponentiation.threshold 5000
/-! L94i: the cover. -/
namespace G94
open PySem Pi
theorem up_cond (a last l : Nat) (hl : l < 50) (x0 x2 : Option R) (S : Store) :
    (mAndT (mB (mOp2 ltD (mOp2 addD (mVar 4) (mD (.int 1))) (mD (.int 51)))) (mAndT (mB (mOp2 eqD (mOp2 modD (mVar 3) (mCallP m_power (mCons (mOp2 addD (mVar 4) (mD (.int 1))) mNil))) (mD (.int 0)))) (mB (mOp2 leD (mOp2 subD (mOp2 addD (mVar 3) (mCallP m_power (mCons (mOp2 addD (mVar 4) (mD (.int 1))) mNil))) (mD (.int 1))) (mVar 1)))))
      [x0, some (.d (.int last)), x2, some (.d (.int a)), some (.d (.int l))] S = .ok (upB a last l) S := by
  have h1 : (l : Int) + 1 < 51 := by omega
  have hp := p_power1 l (by omega) S
  have hpos : (0 : Int) < 2 ^ (l + 1) := Int.pow_pos (by omega)
  have hm : modD (.int (a : Int)) (.int (2 ^ (l + 1))) = some (.int ((a : Int) % 2 ^ (l + 1))) := modD_int hpos
  have e1 : ((a : Int) % 2 ^ (l + 1) = 0) ↔ (a % 2 ^ (l + 1) = 0) := by
    have : ((a : Int) % 2 ^ (l + 1)) = ((a % 2 ^ (l + 1) : Nat) : Int) := by simp
    rw [this]; omega
  have e2 : ((a : Int) + 2 ^ (l + 1) - 1 ≤ last) ↔ (a + 2 ^ (l + 1) ≤ last + 1) := by
    have : ((2 : Int) ^ (l + 1)) = ((2 ^ (l + 1) : Nat) : Int) := by simp
    rw [this]; omega
  unfold upB
  by_cases c1 : a % 2 ^ (l + 1) = 0
  · by_cases c2 : a + 2 ^ (l + 1) ≤ last + 1
    · simp [h1, hp, hm, e1.mpr c1, e2.mpr c2, c1, c2]
    · have c2' : ¬ ((a : Int) + 2 ^ (l + 1) - 1 ≤ last) := fun h => c2 (e2.mp h)
      simp [h1, hp, hm, e1.mpr c1, c2', c1, c2]
  · have c1' : ¬ ((a : Int) % 2 ^ (l + 1) = 0) := fun h => c1 (e1.mp h)
    simp [h1, hp, hm, c1', c1]
theorem loop_up (a last : Nat) (hb : last + 1 < 2 ^ 50) (x0 x2 : Option R) (S : Store) : ∀ (k l n : Nat), l + k = 49 → k + 1 ≤ n → whileLoop (mAndT (mB (mOp2 ltD (mOp2 addD (mVar 4) (mD (.int 1))) (mD (.int 51)))) (mAndT (mB (mOp2 eqD (mOp2 modD (mVar 3) (mCallP m_power (mCons (mOp2 addD (mVar 4) (mD (.int 1))) mNil))) (mD (.int 0)))) (mB (mOp2 leD (mOp2 subD (mOp2 addD (mVar 3) (mCallP m_power (mCons (mOp2 addD (mVar 4) (mD (.int 1))) mNil))) (mD (.int 1))) (mVar 1)))))
    (mAsg (gN 4) (mOp2 addD (mVar 4) (mD (.int 1)))) n [x0, some (.d (.int last)), x2, some (.d (.int a)), some (.d (.int l))] S = .nx [x0, some (.d (.int last)), x2, some (.d (.int a)), some (.d (.int (levG a last k l)))] S := by
  intro k
  induction k with
  | zero =>
    intro l n hl hn
    obtain ⟨n, rfl⟩ : ∃ m, n = m + 1 := ⟨n - 1, by omega⟩
    have hu : upB a last l = false := by
      have e : l = 49 := by omega
      subst e
      have : ¬ (a + 2 ^ (49 + 1) ≤ last + 1) := by omega
      unfold upB
      simp [this]
    rw [whileLoop_succ, up_cond a last l (by omega), hu]
    rfl
  | succ k ih =>
    intro l n hl hn
    obtain ⟨n, rfl⟩ : ∃ m, n = m + 1 := ⟨n - 1, by omega⟩
    rw [whileLoop_succ, up_cond a last l (by omega)]
    cases hu : upB a last l with
    | false => simp [levG, hu]
    | true =>
      have e : ((l : Int) + 1) = ((l + 1 : Nat) : Int) := by omega
      have ih' := ih (l + 1) n (by omega) (by omega)
      simp [levG, hu] at ih' ⊢
      exact ih'
def lev (a last : Nat) : Nat := levG a last 49 0
def coverL (last : Nat) : Nat → Nat → List (Nat × Nat)
  | 0, _ => []
  | f + 1, a => if a ≤ last then (lev a last, a / 2 ^ lev a last) :: coverL last f (a + 2 ^ lev a last) else []
/-- the cover is whole behind f steps -/
def fin (last : Nat) : Nat → Nat → Prop
  | 0, a => last < a
  | f + 1, a => a ≤ last → fin last f (a + 2 ^ lev a last)
theorem fin_gt {last a : Nat} (h : last < a) : ∀ f, fin last f a
  | 0 => h
  | f + 1 => fun h' => absurd h' (by omega)
theorem fin_le {last : Nat} : ∀ {f g a : Nat}, fin last f a → f ≤ g → fin last g a
  | 0, g, a, h, _ => fin_gt h g
  | f + 1, 0, a, h, hg => by omega
  | f + 1, g + 1, a, h, hg => fun ha => fin_le (h ha) (by omega)
/-- the level at which the walk stops -/
theorem levG_spec (a last : Nat) : ∀ k l, a % 2 ^ l = 0 → a + 2 ^ l ≤ last + 1 → a % 2 ^ levG a last k l = 0 ∧ a + 2 ^ levG a last k l ≤ last + 1 ∧ l ≤ levG a last k l ∧ levG a last k l ≤ l + k ∧ (levG a last k l < l + k → upB a last (levG a last k l) = false)
  | 0, l, h1, h2 => ⟨h1, h2, Nat.le_refl _, Nat.le_refl _, fun h => absurd h (Nat.lt_irrefl _)⟩
  | k + 1, l, h1, h2 => by
    unfold levG
    split
    · rename_i hu
      have hu' := hu
      unfold upB at hu
      simp only [Bool.and_eq_true, decide_eq_true_eq] at hu
      obtain ⟨q1, q2, q3, q4, q5⟩ := levG_spec a last k (l + 1) hu.1 hu.2
      exact ⟨q1, q2, by omega, by omega, fun h => q5 (by omega)⟩
    · rename_i hu
      exact ⟨h1, h2, Nat.le_refl _, by omega, fun _ => by simpa using hu⟩
theorem levG_ge (a last : Nat) (j : Nat) (h1 : a % 2 ^ j = 0) (h2 : a + 2 ^ j ≤ last + 1) : ∀ k l, l ≤ j → j ≤ l + k → j ≤ levG a last k l
  | 0, l, h3, h4 => by show j ≤ l; omega
  | k + 1, l, h3, h4 => by
    unfold levG
    by_cases e : l = j
    · split
      · have hg : ∀ k l, l ≤ levG a last k l := fun k => by
          induction k with
          | zero => exact fun l => Nat.le_refl _
          | succ k ih =>
            intro l
            unfold levG
            split
            · have := ih (l + 1); omega
            · exact Nat.le_refl _
        have := hg k (l + 1); omega
      · omega
    · have hu : upB a last l = true := by
        unfold upB
        have hd : 2 ^ (l + 1) ∣ 2 ^ j := Nat.pow_dvd_pow 2 (by omega)
        have hd2 : 2 ^ (l + 1) ∣ a := Nat.dvd_trans hd (Nat.dvd_of_mod_eq_zero h1)
        have hle : 2 ^ (l + 1) ≤ 2 ^ j := Nat.pow_le_pow_right (by decide) (by omega)
        simp [Nat.mod_eq_zero_of_dvd hd2]
        omega
      rw [if_pos hu]
      exact levG_ge a last j h1 h2 k (l + 1) (by omega) (by omega)
theorem lev_ok (a last : Nat) (h : a ≤ last) (hb : last + 1 < 2 ^ 50) : a % 2 ^ lev a last = 0 ∧ a + 2 ^ lev a last ≤ last + 1 ∧ lev a last ≤ 49 ∧ (a % 2 ^ (lev a last + 1) ≠ 0 ∨ last + 1 < a + 2 ^ (lev a last + 1)) := by
  obtain ⟨q1, q2, _, q4, q5⟩ := levG_spec a last 49 0 (by simp [Nat.mod_one]) (by simpa using h)
  refine ⟨q1, q2, by have : lev a last = levG a last 49 0 := rfl
                     omega, ?_⟩
  by_cases e : levG a last 49 0 < 49
  · have hu := q5 (by omega)
    unfold upB at hu
    simp only [Bool.and_eq_false_iff, decide_eq_false_iff_not] at hu
    rcases hu with hu | hu
    · exact .inl hu
    · exact .inr (by show last + 1 < a + 2 ^ (levG a last 49 0 + 1); omega)
  · right
    have e2 : levG a last 49 0 = 49 := by omega
    show last + 1 < a + 2 ^ (levG a last 49 0 + 1)
    rw [e2]
    omega
theorem fin_down (last : Nat) (hb : last + 1 < 2 ^ 50) : ∀ (k a : Nat), a % 2 ^ k = 0 → last + 1 < a + 2 ^ k → fin last k a := by
  intro k
  induction k using Nat.strongRecOn with
  | _ k ih =>
    intro a h1 h2
    by_cases ha : a ≤ last
    · obtain ⟨q1, q2, q3, q4⟩ := lev_ok a last ha hb
      have hlt : lev a last < k := by
        rcases Nat.lt_or_ge (lev a last) k with h | h
        · exact h
        · have := Nat.pow_le_pow_right (show 0 < 2 by decide) h
          omega
      have hr : last + 1 < a + 2 ^ (lev a last + 1) := by
        rcases q4 with q4 | q4
        · exfalso
          have hd : 2 ^ (lev a last + 1) ∣ 2 ^ k := Nat.pow_dvd_pow 2 hlt
          exact q4 (Nat.mod_eq_zero_of_dvd (Nat.dvd_trans hd (Nat.dvd_of_mod_eq_zero h1)))
        · exact q4
      obtain ⟨k, rfl⟩ : ∃ j, k = j + 1 := ⟨k - 1, by omega⟩
      intro _
      refine fin_le (ih (lev a last) hlt (a + 2 ^ lev a last) ?_ ?_) (by omega)
      · rw [Nat.add_mod, q1]; simp
      · rw [Nat.pow_succ] at hr; omega
    · exact fin_gt (by omega) k
theorem odd_step {a l : Nat} (h : a % 2 ^ l = 0) (h2 : a % 2 ^ (l + 1) ≠ 0) : (a + 2 ^ l) % 2 ^ (l + 1) = 0 := by
  obtain ⟨x, hx⟩ := Nat.dvd_of_mod_eq_zero h
  rw [Nat.pow_succ] at h2 ⊢
  have h3 : x % 2 = 1 := by
    rcases Nat.mod_two_eq_zero_or_one x with e | e
    · exfalso
      apply h2
      obtain ⟨y, hy⟩ := Nat.dvd_of_mod_eq_zero e
      rw [hx, hy, ← Nat.mul_assoc]
      exact Nat.mul_mod_right _ _
    · exact e
  have hx2 : a + 2 ^ l = 2 ^ l * (x + 1) := by rw [hx, Nat.mul_add, Nat.mul_one]
  have h4 : (x + 1) % 2 = 0 := by omega
  obtain ⟨y, hy⟩ := Nat.dvd_of_mod_eq_zero h4
  rw [hx2, hy, ← Nat.mul_assoc]
  exact Nat.mul_mod_right _ _
theorem fin_up (last : Nat) (hb : last + 1 < 2 ^ 50) : ∀ (d j a : Nat), j + d = 51 → a % 2 ^ j = 0 → fin last (d + 51) a
  | 0, j, a, hj, h => fin_le (fin_down last hb 51 a (by rw [show 51 = j by omega]; exact h) (by omega)) (by omega)
  | d + 1, j, a, hj, h => by
    by_cases ha : a ≤ last
    · by_cases hr : last + 1 < a + 2 ^ j
      · exact fin_le (fin_down last hb j a h hr) (by omega)
      · obtain ⟨q1, q2, q3, q4⟩ := lev_ok a last ha hb
        have hge : j ≤ lev a last := by
          have hj49 : j ≤ 49 := by
            rcases Nat.lt_or_ge 49 j with h | h
            · have := Nat.pow_le_pow_right (show 0 < 2 by decide) (show 50 ≤ j by omega)
              omega
            · exact h
          exact levG_ge a last j h (by omega) 49 0 (by omega) (by omega)
        rw [show d + 1 + 51 = (d + 51) + 1 by omega]
        intro _
        rcases q4 with q4 | q4
        · have hodd : (a + 2 ^ lev a last) % 2 ^ (lev a last + 1) = 0 := odd_step q1 q4
          have hj2 : (a + 2 ^ lev a last) % 2 ^ (j + 1) = 0 := Nat.mod_eq_zero_of_dvd (Nat.dvd_trans (Nat.pow_dvd_pow 2 (by omega)) (Nat.dvd_of_mod_eq_zero hodd))
          exact fin_up last hb d (j + 1) _ (by omega) hj2
        · refine fin_le (fin_down last hb (lev a last) _ ?_ ?_) (by omega)
          · rw [Nat.add_mod, q1]; simp
          · rw [Nat.pow_succ] at q4; omega
    · exact fin_gt (by omega) _
theorem fin_all (last : Nat) (hb : last + 1 < 2 ^ 50) (a : Nat) : fin last 102 a := fin_up last hb 51 0 a (by decide) (by simp [Nat.mod_one])
theorem cov_le (last : Nat) : ∀ f a, (coverL last f a).length ≤ f
  | 0, _ => Nat.le_refl _
  | f + 1, a => by
    unfold coverL
    split
    · rw [List.length_cons]; have := cov_le last f (a + 2 ^ lev a last); omega
    · exact Nat.zero_le _
/-- the cells of the cover, one behind the other -/
theorem cov_rng {b : Int} (hb : 0 < b) {A : List Pt} (u : Up A) (last : Nat) (hl : last + 1 < 2 ^ 50) : ∀ f a, a ≤ last + 1 → fin last f a → ((coverL last f a).map fun k => blk b A k.1 (k.2 : Int)).flatten = rng (a * b) ((last + 1 : Nat) * b) A
  | 0, a, h1, h2 => by
    have : a = last + 1 := by have : last < a := h2
                              omega
    subst this
    exact (rng_none fun p _ => by omega).symm
  | f + 1, a, h1, h2 => by
    unfold coverL
    by_cases ha : a ≤ last
    · obtain ⟨q1, q2, q3, q4⟩ := lev_ok a last ha hl
      rw [if_pos ha, List.map_cons, List.flatten_cons, cov_rng hb u last hl f _ (by omega) (h2 ha)]
      have hd : a / 2 ^ lev a last * 2 ^ lev a last = a := Nat.div_mul_cancel (Nat.dvd_of_mod_eq_zero q1)
      generalize lev a last = l at *
      generalize a / 2 ^ l = q at *
      have e1 : (q : Int) * wd b l = (a : Int) * b := by
        unfold wd
        rw [← hd]
        push_cast
        rw [Int.mul_comm b, Int.mul_assoc]
      have e2 : ((q : Int) + 1) * wd b l = ((a + 2 ^ l : Nat) : Int) * b := by
        rw [Int.add_mul, e1, Int.one_mul]
        unfold wd
        push_cast
        rw [Int.add_mul, Int.mul_comm b]
      unfold blk
      rw [e1, e2]
      refine (rng_split ?_ ?_ u).symm
      · exact Int.mul_le_mul_of_nonneg_right (by omega) (by omega)
      · exact Int.mul_le_mul_of_nonneg_right (by omega) (by omega)
    · rw [if_neg ha]
      have : a = last + 1 := by omega
      subst this
      exact (rng_none fun p _ => by omega).symm
end G94

set_option Elab.async false
set_option linter.all false
set_option maxRecDepth 100000
set_option exponentiation.threshold 5000
/-! L94j: the cover, run. -/
namespace G94
open PySem Pi
theorem loop_cover (last : Nat) (hb : last + 1 < 2 ^ 50) (x0 : Option R) : ∀ (f a n : Nat) (acc : List D) (x4 : Option R), fin last f a → f + 1 ≤ n → acc.length + f ≤ 100000 → ∃ a' x4',
    whileLoop (mB (mOp2 leD (mVar 3) (mVar 1)))
      (mSeq (mAsg (gN 4) (mD (.int 0)))
      (mSeq (mWhile 300 (mAndT (mB (mOp2 ltD (mOp2 addD (mVar 4) (mD (.int 1))) (mD (.int 51)))) (mAndT (mB (mOp2 eqD (mOp2 modD (mVar 3) (mCallP m_power (mCons (mOp2 addD (mVar 4) (mD (.int 1))) mNil))) (mD (.int 0)))) (mB (mOp2 leD (mOp2 subD (mOp2 addD (mVar 3) (mCallP m_power (mCons (mOp2 addD (mVar 4) (mD (.int 1))) mNil))) (mD (.int 1))) (mVar 1)))))
      (mAsg (gN 4) (mOp2 addD (mVar 4) (mD (.int 1)))))
      (mSeq (mExpr (mApp (mVar 2) (mTup (mCons (mVar 4) (mCons (mOp2 divD (mVar 3) (mCallP m_power (mCons (mVar 4) mNil))) mNil)))))
      (mAsg (gN 3) (mOp2 addD (mVar 3) (mCallP m_power (mCons (mVar 4) mNil))))))) n [x0, some (.d (.int last)), some (.ref 0), some (.d (.int a)), x4] [.lst acc]
      = .nx [x0, some (.d (.int last)), some (.ref 0), a', x4'] [.lst (acc ++ (coverL last f a).map lpD)] := by
  intro f
  induction f with
  | zero =>
    intro a n acc x4 h1 h2 h3
    obtain ⟨n, rfl⟩ : ∃ m, n = m + 1 := ⟨n - 1, by omega⟩
    refine ⟨some (.d (.int a)), x4, ?_⟩
    rw [whileLoop_succ]
    have h1' : last < a := h1
    have : ¬ ((a : Int) ≤ last) := by omega
    simp [this, coverL]
  | succ f ih =>
    intro a n acc x4 h1 h2 h3
    obtain ⟨n, rfl⟩ : ∃ m, n = m + 1 := ⟨n - 1, by omega⟩
    by_cases hc : a ≤ last
    · have hl : lev a last ≤ 49 := (lev_ok a last hc hb).2.2.1
      have hup := loop_up a last hb x0 (some (.ref 0)) [.lst acc] 49 0 300 (by omega) (by omega)
      have hp := p_power (lev a last) (by omega)
      have hpos : 0 < 2 ^ lev a last := Nat.pow_pos (by omega)
      have hple : 2 ^ lev a last ≤ 2 ^ 49 := Nat.pow_le_pow_right (by omega) hl
      obtain ⟨a', x4', e⟩ := ih (a + 2 ^ lev a last) n (acc ++ [lpD (lev a last, a / 2 ^ lev a last)]) (some (.d (.int (lev a last)))) (h1 hc) (by omega) (by rw [List.length_append]; simp; omega)
      refine ⟨a', x4', ?_⟩
      have hci : (a : Int) ≤ last := by omega
      have hd : divD (.int (a : Int)) (.int (2 ^ lev a last)) = some (.int ((a / 2 ^ lev a last : Nat) : Int)) := by
        have e2 : ((2 : Int) ^ lev a last) = ((2 ^ lev a last : Nat) : Int) := by simp
        rw [e2, divD_int (by omega) (by omega)]
        simp
      have hap : ∀ y, appR [.lst acc] (.ref 0) (.d y) = some [.lst (acc ++ [y])] := fun y => by
        have hz : sizeLine = 16777216 := by decide
        show (if acc.length < sizeLine then some _ else none) = _
        rw [if_pos (by rw [hz]; omega)]
        rfl
      have hil : isL [.lst acc] (.ref 0) = true := rfl
      have e3 : (a : Int) + 2 ^ lev a last = ((a + 2 ^ lev a last : Nat) : Int) := by simp
      have hcov : coverL last (f + 1) a = (lev a last, a / 2 ^ lev a last) :: coverL last f (a + 2 ^ lev a last) := by
        show (if a ≤ last then _ else _) = _
        rw [if_pos hc]
      have hlev : levG a last 49 0 = lev a last := rfl
      rw [hlev, show (((0 : Nat) : Int)) = 0 from rfl] at hup
      rw [whileLoop_succ, hcov]
      generalize lev a last = l at *
      generalize a / 2 ^ l = q at *
      have hz : sizeLine = 16777216 := by decide
      simp only [mSeq_ev, mAsg_ev, mD_ev, mB_ev, mOp2_ev, mVar_ev]
      simp [hci, mWhile_ev]
      rw [hup]
      rw [← e3] at e
      simp [hil, hp, hd, hap, hz]
      simpa using e
    · refine ⟨some (.d (.int a)), x4, ?_⟩
      have hci : ¬ ((a : Int) ≤ last) := by omega
      rw [whileLoop_succ]
      simp [hci, coverL, hc]
abbrev cov (lo hi : Nat) : List (Nat × Nat) := coverL hi 102 lo
theorem w_cover_in (lo hi : Nat) (hb : hi + 1 < 2 ^ 50) : m_cover_in [.d (.int lo), .d (.int hi)] [] = .ok (.d (.list ((cov lo hi).map lpD))) [.gone] := by
  obtain ⟨a', x4', e⟩ := loop_cover hi hb (some (.d (.int lo))) 102 lo 300 [] none (fin_all hi hb lo) (by omega) (by simp)
  unfold m_cover_in
  rw [fnR_ev]
  rw [List.nil_append] at e
  generalize (cov lo hi).map lpD = L at *
  have ef : ∀ ρ : Pi.Env, ρ[2]? = some (some (.ref 0)) → mFrzR (mVar 2) ρ [.lst L] = .ok (.d (.list L)) [.gone] := fun ρ h => frzR_of _ _ _ (n := 0) (S1 := [.lst L]) (by simp [h]) rfl
  simp [startR, hz, mWhile_ev]
  rw [e]
  simp [ef]
theorem p_cover_in (lo hi : Nat) (hb : hi + 1 < 2 ^ 50) (S : Store) : runP m_cover_in [.int lo, .int hi] S = .ok (.d (.list ((cov lo hi).map lpD))) S := runP_ok S (w_cover_in lo hi hb)
theorem p_cover (lo hi : Nat) (hb : hi ≤ 1000000000000000) (hl : lo ≤ hi) (S : Store) : runP m_cover [.int lo, .int hi] S = .ok (.d (.tuple ((cov lo hi).map lpD))) S := by
  refine runP_ok (S' := []) S ?_
  have e := p_cover_in lo hi (by omega) []
  unfold m_cover
  rw [fnR_ev]
  generalize (cov lo hi).map lpD = L at *
  have h1 : (lo : Int) ≤ hi := by omega
  have h2 : (hi : Int) ≤ 1000000000000000 := by omega
  have h3 : (lo : Int) ≤ 1000000000000000 := by omega
  simp [startR, p_whole, h1, h2, h3, e]
end G94

set_option Elab.async false
set_option linter.all false
set_option maxRecDepth 100000
set_option exponentiation.threshold 5000
/-! L94k: span. -/
namespace G94
open PySem Pi
theorem p_points_in {X : D} {pts : List Pt} (hX : itD X = some (pts.map ptD)) (hl : pts.length ≤ 100000) (lo hi : Int) (S : Store) : runP m_points_in [X, .int lo, .int hi] S = .ok (.d (.tuple ((rng lo (hi + 1) pts).map ptD))) S := by
  refine runP_ok (S' := []) S ?_
  have lc : ∀ ρ : Pi.Env, ρ.length = 5 → ρ[1]? = some (some (.d (.int lo))) → ρ[2]? = some (some (.d (.int hi))) → lcLoop ρ (gT [gN 3, gN 4]) (mB (mChain leD leD (mVar 1) (mVar 3) (mVar 2))) (mTup (mCons (mVar 3) (mCons (mVar 4) mNil))) (pts.map ptD) [] = .ok ((rng lo (hi + 1) pts).map ptD) [] := fun ρ hlen h1 h2 => by
    unfold rng
    refine lc_of ptD fun x _ => ⟨(ρ.set 3 (some (.d (.int x.1)))).set 4 (some (.d (.int x.2))), by simp, ?_, fun _ => ?_⟩
    · have g1 : ((ρ.set 3 (some (R.d (.int x.1)))).set 4 (some (R.d (.int x.2))))[1]? = _ := set_old (set_old h1)
      have g2 : ((ρ.set 3 (some (R.d (.int x.1)))).set 4 (some (R.d (.int x.2))))[2]? = _ := set_old (set_old h2)
      have g3 : ((ρ.set 3 (some (R.d (.int x.1)))).set 4 (some (R.d (.int x.2))))[3]? = some (some (.d (.int x.1))) := set_old (set_get hlen (by decide))
      generalize (ρ.set 3 (some (R.d (.int x.1)))).set 4 (some (R.d (.int x.2))) = ρ2 at *
      have e : (x.1 < hi + 1) ↔ (x.1 ≤ hi) := by omega
      by_cases c1 : lo ≤ x.1 <;> by_cases c2 : x.1 ≤ hi <;> simp [g1, g2, g3, c1, c2, e]
    · have g3 : ((ρ.set 3 (some (R.d (.int x.1)))).set 4 (some (R.d (.int x.2))))[3]? = some (some (.d (.int x.1))) := set_old (set_get hlen (by decide))
      have g4 : ((ρ.set 3 (some (R.d (.int x.1)))).set 4 (some (R.d (.int x.2))))[4]? = some (some (.d (.int x.2))) := set_get (n := 5) (by simp [hlen]) (by decide)
      generalize (ρ.set 3 (some (R.d (.int x.1)))).set 4 (some (R.d (.int x.2))) = ρ2 at *
      simp [g3, g4, hz]
  have hl2 : (rng lo (hi + 1) pts).length ≤ 16777216 := by have := List.length_filter_le (fun p : Pt => decide (lo ≤ p.1 ∧ p.1 < hi + 1)) pts; unfold rng; omega
  unfold m_points_in
  rw [fnR_ev]
  generalize rng lo (hi + 1) pts = B at *
  simp [startR, hX, lc, hz, hl2]
theorem cov_lv (last : Nat) (hb : last + 1 < 2 ^ 50) : ∀ f a, ∀ k ∈ coverL last f a, k.1 ≤ 49
  | 0, a, k, h => by cases h
  | f + 1, a, k, h => by
    unfold coverL at h
    split at h
    · rename_i ha
      rcases List.mem_cons.mp h with rfl | h
      · exact (lev_ok a last ha hb).2.2.1
      · exact cov_lv last hb f _ k h
    · cases h
theorem flat_filter {α : Type} (f : α → List Pt) : ∀ ks : List α, ((ks.filter fun k => (optP (f k)).isSome).map f).flatten = (ks.map f).flatten
  | [] => rfl
  | k :: ks => by
    rw [List.filter_cons, List.map_cons, List.flatten_cons, ← flat_filter f ks]
    cases h : f k with
    | nil => rw [if_neg (by simp [optP])]; rfl
    | cons x r => rw [if_pos (show (optP (x :: r)).isSome = true from rfl), List.map_cons, List.flatten_cons, h]
/-- the first and the last cell that lie in a span whole -/
def fstC (b lo : Int) : Int := -(-lo / b)
def lstC (b hi : Int) : Int := (hi + 1) / b - 1
def innC (b : Int) (A : List Pt) (lo hi : Int) : List (Nat × Nat) := (cov (fstC b lo).toNat (lstC b hi).toNat).filter fun k => (optP (blk b A k.1 (k.2 : Int))).isSome
def spanN (b : Int) (A : List Pt) (lo hi : Int) : Int := if lstC b hi < fstC b lo then ((rng lo (hi + 1) A).length : Int) else ((innC b A lo hi).length : Int) + (rng lo (fstC b lo * b) A).length + (rng ((lstC b hi + 1) * b) (hi + 1) A).length
theorem fst_bd {b lo : Int} (hb : 0 < b) (h : 0 ≤ lo) : 0 ≤ fstC b lo ∧ lo ≤ fstC b lo * b ∧ fstC b lo * b < lo + b := by
  unfold fstC
  have h1 := Int.ediv_mul_le (-lo) (show b ≠ 0 by omega)
  have h2 := Int.lt_ediv_add_one_mul_self (-lo) hb
  have e : -(-lo / b) * b = -(-lo / b * b) := Int.neg_mul _ _
  rw [Int.add_mul, Int.one_mul] at h2
  refine ⟨?_, by rw [e]; omega, by rw [e]; omega⟩
  have : -lo / b ≤ 0 := Int.ediv_nonpos_of_nonpos_of_neg (by omega) (by omega)
  omega
theorem lst_bd {b hi : Int} (hb : 0 < b) : (lstC b hi + 1) * b ≤ hi + 1 ∧ hi + 1 < (lstC b hi + 1) * b + b := by
  unfold lstC
  have h1 := Int.ediv_mul_le (hi + 1) (show b ≠ 0 by omega)
  have h2 := Int.lt_ediv_add_one_mul_self (hi + 1) hb
  rw [Int.add_mul, Int.one_mul] at h2
  have e : (hi + 1) / b - 1 + 1 = (hi + 1) / b := by omega
  rw [e]
  omega
/-- what a span is, put together -/
theorem span_flat {b : Int} (hb : 0 < b) {A : List Pt} (u : Up A) {lo hi : Int} (h0 : 0 ≤ lo) (h1 : hi ≤ 1000000000000000) (hc : ¬ lstC b hi < fstC b lo) :
    rng lo (fstC b lo * b) A ++ (((innC b A lo hi).map fun k => blk b A k.1 (k.2 : Int)).flatten ++ rng ((lstC b hi + 1) * b) (hi + 1) A) = rng lo (hi + 1) A := by
  obtain ⟨f1, f2, f3⟩ := fst_bd hb h0
  obtain ⟨l1, l2⟩ := lst_bd (hi := hi) hb
  have hl15 : lstC b hi + 1 ≤ 1000000000000001 := by
    have : lstC b hi + 1 = (hi + 1) / b := by unfold lstC; omega
    rw [this]
    by_cases hh : 0 ≤ hi + 1
    · have := Int.ediv_le_self b hh; omega
    · have : (hi + 1) / b ≤ 0 := by
        have := Int.ediv_le_ediv hb (show hi + 1 ≤ 0 by omega)
        simpa using this
      omega
  unfold innC
  rw [flat_filter (fun k : Nat × Nat => blk b A k.1 (k.2 : Int))]
  have ef : (((fstC b lo).toNat : Nat) : Int) = fstC b lo := by omega
  have el : (((lstC b hi).toNat : Nat) : Int) = lstC b hi := by omega
  have hbig : (lstC b hi).toNat + 1 < 2 ^ 50 := by omega
  rw [cov_rng hb u (lstC b hi).toNat hbig 102 (fstC b lo).toNat (by omega) (fin_all _ hbig _)]
  have e2 : (((lstC b hi).toNat + 1 : Nat) : Int) = lstC b hi + 1 := by omega
  rw [ef, e2]
  have hle : fstC b lo * b ≤ (lstC b hi + 1) * b := Int.mul_le_mul_of_nonneg_right (by omega) (by omega)
  rw [← rng_split hle l1 u, ← rng_split f2 (by omega) u]
theorem rng_len (a b : Int) (A : List Pt) : (rng a b A).length ≤ A.length := List.length_filter_le _ _
theorem itemsD_srt (P : List Pt) (h : P.length ≤ 900) : itemsD (encI P) = some ((srt P).map ptD) := by
  unfold itemsD
  rw [pairs_enc, if_pos (by unfold encI; rw [List.length_map]; omega)]
  show (if (okSort (P.map ptD) && noLs (P.map ptD)) = true then some (sortD (P.map ptD)) else none) = _
  rw [if_pos (ok_pts P (by omega)), sort_pts]
  rfl
theorem w_span {S : Store} {n p c : Nat} {b m : Int} {P : List Pt} {C : List (K2 × CT)} (hb : 0 < b ∧ b ≤ 1000000000) (hP : Ps P) (hl : P.length ≤ 900) {lo hi : Int} (hs : 0 ≤ lo ∧ lo ≤ hi ∧ hi ≤ 1000000000000000) (h : VS S n p c b P C m) (hM : CI b (srt P) C) :
    m_View_span [.ref n, .d (.int lo), .d (.int hi)] S = .ok (.d (.tuple [optC (optP (rng lo (hi + 1) (srt P))), .int (spanN b (srt P) lo hi)])) S := by
  have hup : Up (srt P) := srt_up hP.nd
  have hsl := srt_len P
  have d1 : divD (.int (-lo)) (.int b) = some (.int (-lo / b)) := divD_int hb.1 (Int.lt_of_le_of_lt hb.2 (by decide))
  have d2 : divD (.int (hi + 1)) (.int b) = some (.int ((hi + 1) / b)) := divD_int hb.1 (Int.lt_of_le_of_lt hb.2 (by decide))
  have eF : -(-lo / b) = fstC b lo := rfl
  have eL : (hi + 1) / b - 1 = lstC b hi := rfl
  obtain ⟨f1, f2, f3⟩ := fst_bd hb.1 hs.1
  obtain ⟨l1, l2⟩ := lst_bd (hi := hi) hb.1
  rw [m_View_span_eq, fnR_ev]
  have st1 : mExpr (mCallP m_need_span (mCons (mVar 1) (mCons (mVar 2) mNil))) (startR 16 [.ref n, .d (.int lo), .d (.int hi)]) S = .nx (startR 16 [.ref n, .d (.int lo), .d (.int hi)]) S := by simp [startR, p_need_span hs]
  have st2 : mPar [8, 9] (mCons (mOp1 negD (mOp2 divD (mOp1 negD (mVar 1)) (mFld "View" (Str.ofString "base") (mVar 0)))) (mCons (mOp2 subD (mOp2 divD (mOp2 addD (mVar 2) (mD (.int 1))) (mFld "View" (Str.ofString "base") (mVar 0))) (mD (.int 1))) mNil)) (startR 16 [.ref n, .d (.int lo), .d (.int hi)]) S =
      .nx [some (.ref n), some (.d (.int lo)), some (.d (.int hi)), none, none, none, none, none, some (.d (.int (fstC b lo))), some (.d (.int (lstC b hi))), none, none, none, none, none, none] S := by
    simp [startR, h.fB, d1, d2, eF, eL]
  rw [show ∀ x : Out, outF x = outF x from fun _ => rfl]
  rw [seq_of st1 (seq_of st2 rfl)]
  by_cases hc : lstC b hi < fstC b lo
  · have lc := lc_points h (by omega) (i := 14) (j := 15) (cond := mB (mChain leD leD (mVar 1) (mVar 14) (mVar 2))) (f := fun x => decide (lo ≤ x.1 ∧ x.1 < hi + 1)) (ρ := [some (.ref n), some (.d (.int lo)), some (.d (.int hi)), none, none, none, none, none, some (.d (.int (fstC b lo))), some (.d (.int (lstC b hi))), none, none, none, none, none, none]) rfl (show 14 < 16 by decide) (show 15 < 16 by decide) (by decide) (by decide) (by decide) fun x _ => by
      show mB _ [some (.ref n), some (.d (.int lo)), some (.d (.int hi)), none, none, none, none, none, some (.d (.int (fstC b lo))), some (.d (.int (lstC b hi))), none, none, none, none, some (.d (.int x.1)), some (.d (.int x.2))] _ = _
      have e : (x.1 < hi + 1) ↔ (x.1 ≤ hi) := by omega
      by_cases c1 : lo ≤ x.1 <;> by_cases c2 : x.1 ≤ hi <;> simp [c1, c2, e]
    have hsr : srt (P.filter fun x => decide (lo ≤ x.1 ∧ x.1 < hi + 1)) = rng lo (hi + 1) (srt P) := srt_filter hP.nd _
    have hso := sorted_pts (P.filter fun x => decide (lo ≤ x.1 ∧ x.1 < hi + 1)) (by have := List.length_filter_le (fun x : Pt => decide (lo ≤ x.1 ∧ x.1 < hi + 1)) P; omega)
    rw [hsr] at hso
    have hcell := p_cell_of (rng lo (hi + 1) (srt P)) (by have := rng_len lo (hi + 1) (srt P); omega) S
    have hN : spanN b (srt P) lo hi = ((rng lo (hi + 1) (srt P)).length : Int) := if_pos hc
    rw [hN]
    clear hsr
    generalize List.filter (fun x : Pt => decide (lo ≤ x.1 ∧ x.1 < hi + 1)) P = own at *
    have e4 : mAsg (gN 10) (mFrz (mCBL sortedD (mCons (mFrz (mLockL (mFld "View" (Str.ofString "points") (mVar 0)) (mLc (mItDK true (mFld "View" (Str.ofString "points") (mVar 0))) [14, 15] (gT [(gN 14), (gN 15)]) (mB (mChain leD leD (mVar 1) (mVar 14) (mVar 2))) (mTup (mCons (mVar 14) (mCons (mVar 15) mNil)))))) mNil)))
        [some (.ref n), some (.d (.int lo)), some (.d (.int hi)), none, none, none, none, none, some (.d (.int (fstC b lo))), some (.d (.int (lstC b hi))), none, none, none, none, none, none] S =
        .nx [some (.ref n), some (.d (.int lo)), some (.d (.int hi)), none, none, none, none, none, some (.d (.int (fstC b lo))), some (.d (.int (lstC b hi))), some (.d (.list ((rng lo (hi + 1) (srt P)).map ptD))), none, none, none, none, none] S := by
      rw [mAsg_ev, mFrz_ev, mCBL_ev, mCons_ev, mFrz_ev, lc]
      simp [hso]
    rw [mSeq_ev]
    have ei : i_View_span_1 [some (.ref n), some (.d (.int lo)), some (.d (.int hi)), none, none, none, none, none, some (.d (.int (fstC b lo))), some (.d (.int (lstC b hi))), none, none, none, none, none, none] S = .rt (.d (.tuple [optC (optP (rng lo (hi + 1) (srt P))), .int ((rng lo (hi + 1) (srt P)).length : Int)])) S := by
      refine if_t (S1 := S) (by simp [hc]) (seq_of e4 ?_)
      simp [hcell, hz]
    rw [ei]
    rfl
  · have hfl := span_flat hb.1 hup hs.1 hs.2.2 hc
    have hl15 : lstC b hi + 1 ≤ 1000000000000001 := by
      have : lstC b hi + 1 = (hi + 1) / b := by unfold lstC; omega
      rw [this]
      have := Int.ediv_le_self b (show 0 ≤ hi + 1 by omega); omega
    have hF : (((fstC b lo).toNat : Nat) : Int) = fstC b lo := by omega
    have hL : (((lstC b hi).toNat : Nat) : Int) = lstC b hi := by omega
    have hbig : (lstC b hi).toNat + 1 < 2 ^ 50 := by omega
    have hcov := p_cover_in (fstC b lo).toNat (lstC b hi).toNat hbig S
    rw [hF, hL] at hcov
    have hlv := cov_lv (lstC b hi).toNat hbig 102 (fstC b lo).toNat
    have hN : spanN b (srt P) lo hi = ((innC b (srt P) lo hi).length : Int) + (rng lo (fstC b lo * b) (srt P)).length + (rng ((lstC b hi + 1) * b) (hi + 1) (srt P)).length := if_neg hc
    have hinn : (innC b (srt P) lo hi).length ≤ 102 := Nat.le_trans (List.length_filter_le _ _) (cov_le _ _ _)
    have hr1 := rng_len lo (fstC b lo * b) (srt P)
    have hr2 := rng_len ((lstC b hi + 1) * b) (hi + 1) (srt P)
    have hpi1 := p_points_in (X := .list ((srt P).map ptD)) (pts := srt P) rfl (by omega) lo (fstC b lo * b - 1) S
    rw [show fstC b lo * b - 1 + 1 = fstC b lo * b by omega] at hpi1
    have hpi2 := p_points_in (X := .list ((srt P).map ptD)) (pts := srt P) rfl (by omega) ((lstC b hi + 1) * b) hi S
    have hc1 := p_cell_of (rng lo (fstC b lo * b) (srt P)) (by omega) S
    have hc2 := p_cell_of (rng ((lstC b hi + 1) * b) (hi + 1) (srt P)) (by omega) S
    have hj := p_joinL (optP (rng lo (fstC b lo * b) (srt P)) :: ((innC b (srt P) lo hi).map fun k => optP (blk b (srt P) k.1 (k.2 : Int))) ++ [optP (rng ((lstC b hi + 1) * b) (hi + 1) (srt P))]) S
    have hjl : joinL none (optP (rng lo (fstC b lo * b) (srt P)) :: ((innC b (srt P) lo hi).map fun k => optP (blk b (srt P) k.1 (k.2 : Int))) ++ [optP (rng ((lstC b hi + 1) * b) (hi + 1) (srt P))]) = optP (rng lo (hi + 1) (srt P)) := by
      have := joinL_optP ([rng lo (fstC b lo * b) (srt P)] ++ (innC b (srt P) lo hi).map (fun k => blk b (srt P) k.1 (k.2 : Int)) ++ [rng ((lstC b hi + 1) * b) (hi + 1) (srt P)]) []
      rw [List.nil_append] at this
      rw [← hfl]
      simpa [List.map_map, Function.comp_def, optP] using this
    rw [hjl] at hj
    have lcI : ∀ ρ : Pi.Env, ρ.length = 16 → ρ[0]? = some (some (.ref n)) → lcLoop (ρ.set 11 none) (gN 11) (mB (mDIn false (mVar 11) (mFld "View" (Str.ofString "cells") (mVar 0)))) (mDGet (mFld "View" (Str.ofString "cells") (mVar 0)) (mVar 11)) ((cov (fstC b lo).toNat (lstC b hi).toNat).map lpD) S =
        .ok ((innC b (srt P) lo hi).map fun k => optC (optP (blk b (srt P) k.1 (k.2 : Int)))) S := fun ρ hlen h0 => by
      unfold innC
      refine lc_of lpD fun k hk => ⟨_, gN_ev .., ?_, fun hs => ?_⟩
      · have g11 : ((ρ.set 11 none).set 11 (some (R.d (lpD k))))[11]? = some (some (.d (lpD k))) := set_get (n := 16) (by simp [hlen]) (by decide)
        have g0 : ((ρ.set 11 none).set 11 (some (R.d (lpD k))))[0]? = _ := set_old (set_old h0)
        have lk := h.lookC ((k.1 : Int), (k.2 : Int))
        rw [hM.get (l := k.1) (by have := hlv k hk; omega)] at lk
        generalize (ρ.set 11 none).set 11 (some (R.d (lpD k))) = ρ2 at *
        generalize optP (blk b (srt P) k.1 (k.2 : Int)) = o at *
        simp only [kD] at lk
        simp [g11, g0, h.fC, lk]
      · have g11 : ((ρ.set 11 none).set 11 (some (R.d (lpD k))))[11]? = some (some (.d (lpD k))) := set_get (n := 16) (by simp [hlen]) (by decide)
        have g0 : ((ρ.set 11 none).set 11 (some (R.d (lpD k))))[0]? = _ := set_old (set_old h0)
        have lk := h.lookC ((k.1 : Int), (k.2 : Int))
        rw [hM.get (l := k.1) (by have := hlv k hk; omega)] at lk
        generalize (ρ.set 11 none).set 11 (some (R.d (lpD k))) = ρ2 at *
        obtain ⟨x, hx⟩ := Option.isSome_iff_exists.mp hs
        rw [hx] at lk ⊢
        simp only [kD] at lk
        simp [g11, g0, h.fC, lk]
    have hit := itemsD_srt P hl
    have m1 : mulD (.int (fstC b lo)) (.int b) = some (.int (fstC b lo * b)) := mulD_int (mulOk_r (by omega))
    have m2 : mulD (.int (lstC b hi + 1)) (.int b) = some (.int ((lstC b hi + 1) * b)) := mulD_int (mulOk_r (by omega))
    rw [hN]
    have hmap : ((innC b (srt P) lo hi).map fun k => optP (blk b (srt P) k.1 (k.2 : Int))).map optC = (innC b (srt P) lo hi).map fun k => optC (optP (blk b (srt P) k.1 (k.2 : Int))) := by rw [List.map_map]; rfl
    rw [List.cons_append, List.map_cons, List.map_append, hmap, List.map_cons, List.map_nil] at hj
    have hlI : ((innC b (srt P) lo hi).map fun k => optC (optP (blk b (srt P) k.1 (k.2 : Int)))).length = (innC b (srt P) lo hi).length := by rw [List.length_map]
    have hsI := h.pts
    generalize hK : (innC b (srt P) lo hi).map (fun k => optC (optP (blk b (srt P) k.1 (k.2 : Int)))) = K at *
    generalize (innC b (srt P) lo hi).length = N at *
    generalize rng lo (fstC b lo * b) (srt P) = B1 at *
    generalize rng ((lstC b hi + 1) * b) (hi + 1) (srt P) = B2 at *
    generalize optP (rng lo (hi + 1) (srt P)) = W at *
    generalize (cov (fstC b lo).toNat (lstC b hi).toNat).map lpD = CV at *
    clear hfl hjl hN hlv hK hmap st1 st2 l2 f3 f2 l1 hM hup eF eL d1 d2
    generalize fstC b lo = F at *
    generalize lstC b hi = L at *
    have sI : mSortItems (mFld "View" (Str.ofString "points") (mVar 0)) [some (.ref n), some (.d (.int lo)), some (.d (.int hi)), some (.d (.list [.tuple [.int lo, .int (F * b - 1)], .tuple [.int ((L + 1) * b), .int hi]])), none, none, none, none, some (.d (.int F)), some (.d (.int L)), none, none, none, none, none, none] S = .ok ((srt P).map ptD) S :=
      sortI_of _ _ _ (n := p) (S1 := S) (by simp [h.fP]) hsI hit
    generalize (srt P).map ptD = AD at *
    rw [mSeq_ev]
    have ei : i_View_span_1 [some (.ref n), some (.d (.int lo)), some (.d (.int hi)), none, none, none, none, none, some (.d (.int F)), some (.d (.int L)), none, none, none, none, none, none] S = .nx [some (.ref n), some (.d (.int lo)), some (.d (.int hi)), none, none, none, none, none, some (.d (.int F)), some (.d (.int L)), none, none, none, none, none, none] S :=
      if_f (S1 := S) (by simp [hc]) rfl
    rw [ei, seq_nx]
    have run : (mSeq (mAsg (gN 3) (mFrz (mDisp (mCons (mTup (mCons (mVar 1) (mCons (mOp2 subD (mOp2 mulD (mVar 8) (mFld "View" (Str.ofString "base") (mVar 0))) (mD (.int 1))) mNil))) (mCons (mTup (mCons (mOp2 mulD (mOp2 addD (mVar 9) (mD (.int 1))) (mFld "View" (Str.ofString "base") (mVar 0))) (mCons (mVar 2) mNil))) mNil)))))
        (mSeq (mAsg (gN 4) (mFrz (mSortItems (mFld "View" (Str.ofString "points") (mVar 0)))))
        (mSeq (mSetL 5 (mLc (mItS (mVar 3)) [12, 13] (gT [(gN 12), (gN 13)]) mYes (mCallP m_points_in (mCons (mVar 4) (mCons (mVar 12) (mCons (mVar 13) mNil))))))
        (mSeq (mSetL 6 (mLc (mItS (mCallP m_cover_in (mCons (mVar 8) (mCons (mVar 9) mNil)))) [11] (gN 11) (mB (mDIn false (mVar 11) (mFld "View" (Str.ofString "cells") (mVar 0)))) (mDGet (mFld "View" (Str.ofString "cells") (mVar 0)) (mVar 11))))
        (mSeq (mAsg (gN 7) (mCallP m_joined_all (mCons (mFrz (mOp2L (onlyL addD) (mFrz (mOp2L (onlyL addD) (mFrz (mDisp (mCons (mCallP m_cell_of (mCons (mOp2 ixD (mVar 5) (mD (.int 0))) mNil)) mNil))) (mVar 6))) (mFrz (mDisp (mCons (mCallP m_cell_of (mCons (mOp2 ixD (mVar 5) (mD (.int 1))) mNil)) mNil))))) mNil)))
        (mRet (mTup (mCons (mVar 7) (mCons (mOp2 addD (mOp2 addD (mCB lenD (mCons (mVar 6) mNil)) (mCB lenD (mCons (mOp2 ixD (mVar 5) (mD (.int 0))) mNil))) (mCB lenD (mCons (mOp2 ixD (mVar 5) (mD (.int 1))) mNil))) mNil)))))))))
        [some (.ref n), some (.d (.int lo)), some (.d (.int hi)), none, none, none, none, none, some (.d (.int F)), some (.d (.int L)), none, none, none, none, none, none] S = .rt (.d (.tuple [optC W, .int ((N : Int) + B1.length + B2.length)])) S := by
      refine seq_of (ρ1 := [some (.ref n), some (.d (.int lo)), some (.d (.int hi)), some (.d (.list [.tuple [.int lo, .int (F * b - 1)], .tuple [.int ((L + 1) * b), .int hi]])), none, none, none, none, some (.d (.int F)), some (.d (.int L)), none, none, none, none, none, none]) (S1 := S) (by simp [h.fB, m1, m2, hz]) ?_
      refine seq_of (ρ1 := [some (.ref n), some (.d (.int lo)), some (.d (.int hi)), some (.d (.list [.tuple [.int lo, .int (F * b - 1)], .tuple [.int ((L + 1) * b), .int hi]])), some (.d (.list AD)), none, none, none, some (.d (.int F)), some (.d (.int L)), none, none, none, none, none, none]) (S1 := S) ?_ ?_
      · rw [mAsg_ev, mFrz_ev, sI]; rfl
      refine seq_of (ρ1 := [some (.ref n), some (.d (.int lo)), some (.d (.int hi)), some (.d (.list [.tuple [.int lo, .int (F * b - 1)], .tuple [.int ((L + 1) * b), .int hi]])), some (.d (.list AD)), some (.d (.list [.tuple (B1.map ptD), .tuple (B2.map ptD)])), none, none, some (.d (.int F)), some (.d (.int L)), none, none, none, none, none, none]) (S1 := S) ?_ ?_
      · simp [lcLoop_cons, hpi1, hpi2, hz]
      refine seq_of (ρ1 := [some (.ref n), some (.d (.int lo)), some (.d (.int hi)), some (.d (.list [.tuple [.int lo, .int (F * b - 1)], .tuple [.int ((L + 1) * b), .int hi]])), some (.d (.list AD)), some (.d (.list [.tuple (B1.map ptD), .tuple (B2.map ptD)])), some (.d (.list K)), none, some (.d (.int F)), some (.d (.int L)), none, none, none, none, none, none]) (S1 := S) ?_ ?_
      · have hK16 : K.length ≤ sizeLine := by rw [hz]; omega
        rw [mSetL_ev, mLc_ev]
        have e1 : mItS (mCallP m_cover_in (mCons (mVar 8) (mCons (mVar 9) mNil))) [some (.ref n), some (.d (.int lo)), some (.d (.int hi)), some (.d (.list [.tuple [.int lo, .int (F * b - 1)], .tuple [.int ((L + 1) * b), .int hi]])), some (.d (.list AD)), some (.d (.list [.tuple (B1.map ptD), .tuple (B2.map ptD)])), none, none, some (.d (.int F)), some (.d (.int L)), none, none, none, none, none, none] S = .ok CV S := by simp [hcov]
        rw [e1, Res.bind_ok, wipeR_cons, wipeR_nil, lcI _ rfl rfl]
        simp only [noEx, Res.bind_ok, if_pos hK16, Res.out_ok]
        rfl
      refine seq_of (ρ1 := [some (.ref n), some (.d (.int lo)), some (.d (.int hi)), some (.d (.list [.tuple [.int lo, .int (F * b - 1)], .tuple [.int ((L + 1) * b), .int hi]])), some (.d (.list AD)), some (.d (.list [.tuple (B1.map ptD), .tuple (B2.map ptD)])), some (.d (.list K)), some (.d (optC W)), some (.d (.int F)), some (.d (.int L)), none, none, none, none, none, none]) (S1 := S) ?_ ?_
      · have a1 : onlyL addD (.list [optC (optP B1)]) (.list K) = some (optC (optP B1) :: K) := onlyL_of (addD_lst (by rw [hz]; simp; omega))
        have a2 : onlyL addD (.list (optC (optP B1) :: K)) (.list [optC (optP B2)]) = some (optC (optP B1) :: (K ++ [optC (optP B2)])) := onlyL_of (addD_lst (by rw [hz]; simp; omega))
        simp [hc1, hc2, hz, a1, a2, hj]
      · simp [hz, hlI]
    rw [run]
    rfl
end G94

set_option Elab.async false
set_option linter.all false
set_option maxRecDepth 100000
set_option exponentiation.threshold 5000
/-! L94l: points looked at; columns. -/
namespace G94
open PySem Pi
theorem up_zip : ∀ {A : List Pt}, Up A → ∀ q ∈ A.zip (A.drop 1), q.1.1 < q.2.1
  | [], _, q, h => by simp at h
  | [p], _, q, h => by simp at h
  | p :: p' :: A, u, q, h => by
    obtain ⟨u1, u2⟩ := List.pairwise_cons.mp u
    have e : (p :: p' :: A).zip ((p :: p' :: A).drop 1) = (p, p') :: (p' :: A).zip ((p' :: A).drop 1) := rfl
    rw [e] at h
    rcases List.mem_cons.mp h with rfl | h
    · exact u1 p' List.mem_cons_self
    · exact up_zip u2 q h
theorem p_is_rising {A : List Pt} (u : Up A) (hl : A.length ≤ 100000) (S : Store) : runP m_is_rising [.list (A.map fun p => .int p.1)] S = .ok (.d (.bool true)) S := by
  refine runP_ok (S' := []) S ?_
  unfold m_is_rising
  rw [fnR_ev]
  have c1 : sliceD (.list (A.map fun p => PyData.int p.1)) (some 1) none = some (.list ((A.map fun p => PyData.int p.1).drop 1)) := by
    show some (PyData.list (cutD _ _ _)) = _
    rw [cut1]
  have hzip : zip2 [.list (A.map fun p => PyData.int p.1), .list ((A.map fun p => PyData.int p.1).drop 1)] = some ((A.zip (A.drop 1)).map fun p => .tuple [.int p.1.1, .int p.2.1]) := by
    show some (zipD _ _) = _
    rw [← List.map_drop, zipD_map]
  have hf := up_zip u
  have a3 : lcLoop [some (.d (.list (A.map fun p => PyData.int p.1))), none, none] (gT [gN 1, gN 2]) mYes (mOp2 ltD (mVar 1) (mVar 2)) ((A.zip (A.drop 1)).map fun p => PyData.tuple [.int p.1.1, .int p.2.1]) [] = .ok ((A.zip (A.drop 1)).map fun _ => .bool true) [] := by
    refine lc_all (fun p : Pt × Pt => PyData.tuple [.int p.1.1, .int p.2.1]) fun p hp => ⟨[some (.d (.list (A.map fun p => PyData.int p.1))), some (.d (.int p.1.1)), some (.d (.int p.2.1))], rfl, ?_⟩
    have := hf p hp
    simp [this]
  have hall := allD1_const (A.zip (A.drop 1))
  have l3 : ((A.zip (A.drop 1)).map fun _ => PyData.bool true).length ≤ 16777216 := by rw [List.length_map, List.length_zip]; omega
  generalize ((A.zip (A.drop 1)).map fun _ => PyData.bool true) = L4 at *
  generalize ((A.zip (A.drop 1)).map fun p => PyData.tuple [.int p.1.1, .int p.2.1]) = L3 at *
  generalize (A.map fun p => PyData.int p.1) = L2 at *
  rw [List.drop_one] at hzip c1
  simp [startR, c1, hzip, a3, hz, l3, hall]
theorem p_fits_time {t : Int} (h : 0 ≤ t ∧ t ≤ 1000000000000000) (S : Store) : runP m_fits_time [.int t] S = .ok (.d (.bool true)) S := runP_ok (S' := []) S (by
  unfold m_fits_time
  rw [fnR_ev]
  simp [startR, p_whole, h.1, h.2])
theorem p_fits_long {A : List Pt} (u : Up A) (hb : ∀ p ∈ A, (0 ≤ p.1 ∧ p.1 ≤ 1000000000000000) ∧ (-1000000000000 ≤ p.2 ∧ p.2 ≤ 1000000000000)) (h1 : 1 ≤ A.length) (hl : A.length ≤ 4096) (S : Store) : runP m_fits_long [.tuple (A.map ptD)] S = .ok (.d (.bool true)) S := by
  refine runP_ok (S' := []) S ?_
  rw [m_fits_long_eq, fnR_ev]
  have hlen : (1 : Int) ≤ A.length := by omega
  have hlen2 : (A.length : Int) ≤ 4096 := by omega
  have a1 : lcLoop [some (.d (.tuple (A.map ptD))), none, none, none] (gN 3) mYes (mCallP m_is_tuple_of (mCons (mVar 3) (mCons (mD (.int 2)) (mCons (mD (.int 2)) mNil)))) (A.map ptD) [] = .ok (A.map fun _ => .bool true) [] := by
    refine lc_all ptD fun p hp => ⟨[some (.d (.tuple (A.map ptD))), none, none, some (.d (ptD p))], rfl, ?_⟩
    simp [p_tuple_of]
  have a2 : lcLoop [some (.d (.tuple (A.map ptD))), none, none, none] (gT [gN 1, gN 2]) mYes (mAndV (mCallP m_fits_time (mCons (mVar 1) mNil)) (mCallP m_is_whole (mCons (mVar 2) (mCons (mOp1 negD (mD (.int 1000000000000))) (mCons (mD (.int 1000000000000)) mNil))))) (A.map ptD) [] = .ok (A.map fun _ => .bool true) [] := by
    refine lc_all ptD fun p hp => ⟨[some (.d (.tuple (A.map ptD))), some (.d (.int p.1)), some (.d (.int p.2)), none], rfl, ?_⟩
    obtain ⟨b1, b2⟩ := hb p hp
    simp [p_fits_time b1, p_whole, b2.1, b2.2, truD]
  have a3 : lcLoop [some (.d (.tuple (A.map ptD))), none, none, none] (gT [gN 1, gN 2]) mYes (mVar 1) (A.map ptD) [] = .ok (A.map fun p => .int p.1) [] := by
    refine lc_all ptD fun p hp => ⟨[some (.d (.tuple (A.map ptD))), some (.d (.int p.1)), some (.d (.int p.2)), none], rfl, ?_⟩
    simp
  have hall := allD1_const A
  have l1 : (A.map fun _ => PyData.bool true).length ≤ 16777216 := by rw [List.length_map]; omega
  have l2 : (A.map fun p => PyData.int p.1).length ≤ 16777216 := by rw [List.length_map]; omega
  have hr := p_is_rising u (by omega) []
  generalize (A.map fun _ => PyData.bool true) = L1 at *
  generalize (A.map fun p => PyData.int p.1) = L2 at *
  have q1 : i_fits_long_2 [some (.d (.tuple (A.map ptD))), none, none, none] [] = .nx [some (.d (.tuple (A.map ptD))), none, none, none] [] := by
    unfold i_fits_long_2
    simp [p_tuple_of, hlen, hlen2, a1, hz, l1, hall, truD]
  have q2 : i_fits_long_1 [some (.d (.tuple (A.map ptD))), none, none, none] [] = .nx [some (.d (.tuple (A.map ptD))), none, none, none] [] := by
    unfold i_fits_long_1
    simp [a2, hz, l1, hall, truD]
  show outF (mSeq i_fits_long_2 _ [some (.d (.tuple (A.map ptD))), none, none, none] []) = _
  rw [seq_of q1 (seq_of q2 rfl)]
  simp [a3, hz, l2, hr]
theorem p_need_points {A : List Pt} (u : Up A) (hb : ∀ p ∈ A, (0 ≤ p.1 ∧ p.1 ≤ 1000000000000000) ∧ (-1000000000000 ≤ p.2 ∧ p.2 ≤ 1000000000000)) (hl : A.length ≤ 4096) (S : Store) : runP m_need_points [.tuple (A.map ptD)] S = .ok (.d .none) S := by
  refine runP_ok (S' := []) S ?_
  unfold m_need_points
  rw [fnR_ev]
  cases A with
  | nil =>
    have : neD (.tuple []) (.tuple []) = some (.bool false) := rfl
    simp [startR, this, isT, Ty.has, truD]
  | cons p r =>
    have h0 : neD (.tuple ((p :: r).map ptD)) (.tuple []) = some (.bool true) := by
      have he : eqD (.tuple ((p :: r).map ptD)) (.tuple []) = some (.bool false) := by
        rw [eqD_pure]
        · simp [PyData.eqv, PyData.eqvAll]
        · exact pureTs_map (fun x => by simp [pureT, pureTs]) _
        · rfl
        · rw [PyData.depth]
          have : PyData.depthAll ((p :: r).map ptD) ≤ 1 := depthAll_le fun x hx => by
            obtain ⟨y, _, rfl⟩ := List.mem_map.mp hx
            simp [PyData.depth, PyData.depthAll]
          omega
        · simp [PyData.depth, PyData.depthAll]
      unfold neD
      unfold eqD at he
      cases hq : eqB (.tuple ((p :: r).map ptD)) (.tuple []) with
      | none => rw [hq] at he; cases he
      | some k => rw [hq] at he; cases he; rfl
    have hf := p_fits_long u hb (by simp) hl []
    generalize (p :: r).map ptD = L at *
    simp [startR, h0, hf, isT, Ty.has, truD]
end G94

set_option Elab.async false
set_option linter.all false
set_option maxRecDepth 100000
set_option exponentiation.threshold 10000
/-! L94m: columns. -/
namespace G94
open PySem Pi
/-- the spans of k columns from a on, to e -/
def colL (e : Int) : Nat → Int → List Pt
  | 0, _ => []
  | k + 1, a => (a, a + (e + 1 - a + (k + 1) - 1) / ((k : Int) + 1) - 1) :: colL e k (a + (e + 1 - a + (k + 1) - 1) / ((k : Int) + 1))
theorem colL_len (e : Int) : ∀ k a, (colL e k a).length = k
  | 0, _ => rfl
  | k + 1, a => by unfold colL; rw [List.length_cons, colL_len e k]
theorem wide_bd {R k : Int} (hk : 1 ≤ k) (hR : k ≤ R) : 1 ≤ (R + k - 1) / k ∧ (k - 1) ≤ R - (R + k - 1) / k := by
  have h1 := Int.ediv_mul_le (R + k - 1) (show k ≠ 0 by omega)
  have h0 : 1 ≤ (R + k - 1) / k := (Int.le_ediv_iff_mul_le (by omega)).mpr (by omega)
  refine ⟨h0, ?_⟩
  by_cases e : R = k
  · subst e
    have : (R + R - 1) / R < 2 := (Int.ediv_lt_iff_lt_mul (by omega)).mpr (by omega)
    omega
  · generalize (R + k - 1) / k = w at *
    rcases (show w < R - k + 2 ∨ R - k + 2 ≤ w by omega) with h | h
    · omega
    · exfalso
      have p1 : 0 ≤ (R - 1 - k) * (k - 1) := Int.mul_nonneg (by omega) (by omega)
      have p2 : 0 ≤ (w - (R - k + 2)) * k := Int.mul_nonneg (by omega) (by omega)
      have e1 : (R - 1 - k) * (k - 1) = R * k - k - k * k - (R - 1 - k) := by rw [Int.mul_sub, Int.sub_mul, Int.sub_mul]; omega
      have e2 : (w - (R - k + 2)) * k = w * k - (R * k - k * k + 2 * k) := by rw [Int.sub_mul, Int.add_mul, Int.sub_mul]
      rw [e1] at p1
      rw [e2] at p2
      generalize R * k = Rk at *
      generalize k * k = kk at *
      generalize w * k = wk at *
      omega
/-- the spans lie in a .. e, none is empty -/
theorem colL_ok (e : Int) : ∀ (k : Nat) (a : Int), (k : Int) ≤ e + 1 - a → ∀ s ∈ colL e k a, a ≤ s.1 ∧ s.1 ≤ s.2 ∧ s.2 ≤ e
  | 0, a, h, s, hs => by cases hs
  | k + 1, a, h, s, hs => by
    unfold colL at hs
    have hw := wide_bd (R := e + 1 - a) (k := (k : Int) + 1) (by omega) (by omega)
    have e1 : e + 1 - a + (k + 1) - 1 = e + 1 - a + ((k : Int) + 1) - 1 := rfl
    generalize (e + 1 - a + ((k : Int) + 1) - 1) / ((k : Int) + 1) = w at *
    rcases List.mem_cons.mp hs with rfl | hs
    · exact ⟨by show a ≤ a; omega, by show a ≤ a + w - 1; omega, by show a + w - 1 ≤ e; omega⟩
    · have := colL_ok e k (a + w) (by omega) s hs
      exact ⟨by omega, this.2.1, this.2.2⟩
theorem app0 {acc : List D} (h : acc.length ≤ 100000) (y : D) : appR [.lst acc] (.ref 0) (.d y) = some [.lst (acc ++ [y])] := by
  show (if acc.length < sizeLine then some _ else none) = _
  rw [if_pos (by rw [hz]; omega)]
  rfl
theorem loop_law_columns (e : Int) (x0 x2 : Option R) : ∀ (k : Nat) (a : Int) (acc : List D) (x3 x6 : Option R), acc.length + k ≤ 1000 → ∃ x3' x5' x6', forLoop (gN 3) b__law_columns_1 (downD (k : Int) k) [x0, some (.d (.int e)), x2, x3, some (.ref 0), some (.d (.int a)), x6] [.lst acc] =
    .nx [x0, some (.d (.int e)), x2, x3', some (.ref 0), x5', x6'] [.lst (acc ++ (colL e k a).map ptD)]
  | 0, a, acc, x3, x6, h => ⟨x3, some (.d (.int a)), x6, by simp [downD, colL]⟩
  | k + 1, a, acc, x3, x6, h => by
    have ek : ((k + 1 : Nat) : Int) = (k : Int) + 1 := by omega
    have d1 : divD (.int (e + 1 - a + ((k : Int) + 1) - 1)) (.int ((k : Int) + 1)) = some (.int ((e + 1 - a + ((k : Int) + 1) - 1) / ((k : Int) + 1))) := divD_int (by omega) (Int.lt_of_lt_of_le (show (k : Int) + 1 < 2 ^ 64 by omega) (by decide))
    have hc : colL e (k + 1) a = (a, a + (e + 1 - a + ((k : Int) + 1) - 1) / ((k : Int) + 1) - 1) :: colL e k (a + (e + 1 - a + ((k : Int) + 1) - 1) / ((k : Int) + 1)) := rfl
    rw [hc]
    generalize (e + 1 - a + ((k : Int) + 1) - 1) / ((k : Int) + 1) = w at *
    obtain ⟨x3', x5', x6', ih⟩ := loop_law_columns e x0 x2 k (a + w) (acc ++ [ptD (a, a + w - 1)]) (some (.d (.int ((k : Int) + 1)))) (some (.d (.int w))) (by rw [List.length_append]; simp; omega)
    refine ⟨x3', x5', x6', ?_⟩
    have hd : downD ((k + 1 : Nat) : Int) (k + 1) = .int ((k : Int) + 1) :: downD (k : Int) k := by
      show PyData.int ((k + 1 : Nat) : Int) :: downD (((k + 1 : Nat) : Int) - 1) k = _
      rw [ek, show (k : Int) + 1 - 1 = (k : Int) by omega]
    rw [hd]
    refine forN_of (ρ1 := [x0, some (.d (.int e)), x2, some (.d (.int ((k : Int) + 1))), some (.ref 0), some (.d (.int (a + w))), some (.d (.int w))]) (S1 := [.lst (acc ++ [ptD (a, a + w - 1)])]) ?_ (by rw [ih]; simp)
    have hap := app0 (acc := acc) (by omega) (ptD (a, a + w - 1))
    have hil : isL [.lst acc] (.ref 0) = true := rfl
    unfold b__law_columns_1
    simp [d1, hil, hap, hz]
theorem okR_s {i : Int} (h : -1000 ≤ i ∧ i ≤ 1000) : okR i = true := by
  unfold okR
  rw [Bool.and_eq_true]
  exact ⟨decide_eq_true (Int.le_trans (show -(2 ^ 62) ≤ (-1000 : Int) by decide) h.1), decide_eq_true (Int.lt_of_le_of_lt h.2 (by decide))⟩
theorem range3_ev (i j : Int) : range3 [.int i, .int j, .int (-1)] = if (okR i && okR j) = true then some (downD i (i - j).toNat) else none := Eq.trans rfl rfl
theorem range3_k (k : Nat) (hk : k ≤ 300) : range3 [.int k, .int 0, .int (-1)] = some (downD (k : Int) k) := by
  rw [range3_ev, if_pos (by rw [okR_s (by omega), okR_s (by omega)]; rfl), show ((k : Int) - 0).toNat = k by omega]
theorem p_law_columns {b e : Int} {k : Nat} (hk : k ≤ 300) (S : Store) : runP m__law_columns [.int b, .int e, .int k] S = .ok (.d (.list ((colL e k b).map ptD))) S := by
  refine runP_ok (S' := [.gone]) S ?_
  rw [m__law_columns_eq, fnR_ev]
  obtain ⟨x3', x5', x6', h⟩ := loop_law_columns e (some (.d (.int b))) (some (.d (.int k))) k b [] none none (by simp; omega)
  rw [List.nil_append] at h
  have hr := range3_k k hk
  generalize (colL e k b).map ptD = L at *
  have ef : ∀ ρ : Pi.Env, ρ[4]? = some (some (.ref 0)) → mFrzR (mVar 4) ρ [.lst L] = .ok (.d (.list L)) [.gone] := fun ρ h => frzR_of _ _ _ (n := 0) (S1 := [.lst L]) (by simp [h]) rfl
  unfold f__law_columns_1
  simp [startR, hr, hz]
  rw [h]
  simp [ef]
/-! the program's way: the first columns one wider -/
theorem wide_eq {sz r k : Int} (hk : 1 ≤ k) (hr : 0 ≤ r ∧ r < k ∨ r = 0) : (sz * k + r + k - 1) / k = sz + (if 0 < r then 1 else 0) := by
  have e : sz * k + r + k - 1 = (r + k - 1) + k * sz := by rw [Int.mul_comm]; omega
  rw [e, Int.add_mul_ediv_left _ _ (by omega)]
  by_cases h : 0 < r
  · rw [if_pos h]
    have : (r + k - 1) / k = 1 := by
      have h1 : r + k - 1 = (r - 1) + k * 1 := by omega
      rw [h1, Int.add_mul_ediv_left _ _ (by omega), Int.ediv_eq_zero_of_lt (by omega) (by omega)]
      omega
    omega
  · rw [if_neg h]
    have : r = 0 := by omega
    subst this
    have : (0 + k - 1) / k = 0 := Int.ediv_eq_zero_of_lt (by omega) (by omega)
    omega
theorem loop_spans (e sz mo : Int) (x0 x1 x2 : Option R) (n : Nat) : ∀ (k : Nat) (j : Nat) (a : Int) (acc : List D) (x3 x8 : Option R), j + k = n → acc.length + k ≤ 1000 → 0 ≤ mo → mo < n → e + 1 - a = sz * k + (if (j : Int) < mo then mo - j else 0) →
    ∃ x3' x7' x8', forLoop (gN 3) b_spans_of_1 ((List.range' j k).map fun i : Nat => .int (i : Int)) [x0, x1, x2, x3, some (.d (.int sz)), some (.d (.int mo)), some (.ref 0), some (.d (.int a)), x8] [.lst acc] =
    .nx [x0, x1, x2, x3', some (.d (.int sz)), some (.d (.int mo)), some (.ref 0), x7', x8'] [.lst (acc ++ (colL e k a).map ptD)]
  | 0, j, a, acc, x3, x8, hj, h, _, _, _ => ⟨x3, some (.d (.int a)), x8, by simp [colL]⟩
  | k + 1, j, a, acc, x3, x8, hj, h, h0, h1, hR => by
    have hwq : (e + 1 - a + ((k : Int) + 1) - 1) / ((k : Int) + 1) = sz + (if (j : Int) < mo then 1 else 0) := by
      have ek : ((k + 1 : Nat) : Int) = (k : Int) + 1 := by omega
      rw [hR, ek]
      by_cases c : (j : Int) < mo
      · rw [if_pos c, if_pos c, wide_eq (by omega) (.inl ⟨by omega, by omega⟩), if_pos (by omega)]
      · rw [if_neg c, if_neg c, wide_eq (by omega) (.inr rfl), if_neg (by omega)]
    have hc : colL e (k + 1) a = (a, a + (e + 1 - a + ((k : Int) + 1) - 1) / ((k : Int) + 1) - 1) :: colL e k (a + (e + 1 - a + ((k : Int) + 1) - 1) / ((k : Int) + 1)) := rfl
    rw [hc, hwq]
    have hR2 : e + 1 - (a + (sz + (if (j : Int) < mo then 1 else 0))) = sz * k + (if ((j + 1 : Nat) : Int) < mo then mo - ((j + 1 : Nat) : Int) else 0) := by
      have ek : ((k + 1 : Nat) : Int) = (k : Int) + 1 := by omega
      rw [ek, Int.mul_add, Int.mul_one] at hR
      by_cases c : (j : Int) < mo
      · rw [if_pos c] at hR ⊢
        by_cases c2 : ((j + 1 : Nat) : Int) < mo
        · rw [if_pos c2]; omega
        · rw [if_neg c2]; omega
      · rw [if_neg c] at hR ⊢
        rw [if_neg (by omega)]; omega
    have hint : intD [.bool (decide ((j : Int) < mo))] = some (.int (if (j : Int) < mo then 1 else 0)) := by
      show some (PyData.int (if decide ((j : Int) < mo) then 1 else 0)) = _
      by_cases c : (j : Int) < mo <;> simp [c]
    generalize (if (j : Int) < mo then (1 : Int) else 0) = o at *
    obtain ⟨x3', x7', x8', ih⟩ := loop_spans e sz mo x0 x1 x2 n k (j + 1) (a + (sz + o)) (acc ++ [ptD (a, a + (sz + o) - 1)]) (some (.d (.int j))) (some (.d (.int (sz + o)))) (by omega) (by rw [List.length_append]; simp; omega) h0 h1 hR2
    refine ⟨x3', x7', x8', ?_⟩
    rw [List.range'_succ, List.map_cons]
    refine forN_of (ρ1 := [x0, x1, x2, some (.d (.int j)), some (.d (.int sz)), some (.d (.int mo)), some (.ref 0), some (.d (.int (a + (sz + o)))), some (.d (.int (sz + o)))]) (S1 := [.lst (acc ++ [ptD (a, a + (sz + o) - 1)])]) ?_ (by rw [ih]; simp)
    have hap := app0 (acc := acc) (by omega) (ptD (a, a + (sz + o) - 1))
    have hil : isL [.lst acc] (.ref 0) = true := rfl
    unfold b_spans_of_1
    simp [hint, hil, hap, hz]
theorem p_spans_of {b e : Int} {k : Nat} (hk : 1 ≤ k ∧ k ≤ 300) (he : (k : Int) ≤ e + 1 - b) (S : Store) : runP m_spans_of [.int b, .int e, .int k] S = .ok (.d (.list ((colL e k b).map ptD))) S := by
  refine runP_ok (S' := [.gone]) S ?_
  rw [m_spans_of_eq, fnR_ev]
  have hmod : 0 ≤ (e - b + 1) % (k : Int) ∧ (e - b + 1) % (k : Int) < k := ⟨Int.emod_nonneg _ (by omega), Int.emod_lt_of_pos _ (by omega)⟩
  have hdm := Int.mul_ediv_add_emod (e - b + 1) (k : Int)
  have hdv : divmodD [.int (e - b + 1), .int (k : Int)] = some (.tuple [.int ((e - b + 1) / k), .int ((e - b + 1) % k)]) := by
    show (if decide (0 < (k : Int)) && decide ((k : Int).natAbs.log2 < 9000) then _ else none) = _
    have h2 : (k : Int).natAbs.log2 < 9000 := by
      have : (k : Int).natAbs < 2 ^ 9000 := Nat.lt_of_lt_of_le (show (k : Int).natAbs < 2 ^ 10 by omega) (Nat.pow_le_pow_right (by decide) (by decide))
      rcases Nat.eq_zero_or_pos (k : Int).natAbs with h | h
      · rw [h]; decide
      · exact (Nat.log2_lt (by omega)).mpr this
    rw [decide_eq_true (show 0 < (k : Int) by omega), decide_eq_true h2]
    rfl
  have hr := range1_nat (j := (k : Int)) (by omega) (by omega)
  rw [Int.toNat_natCast, List.range_eq_range'] at hr
  generalize hsz : (e - b + 1) / (k : Int) = sz at *
  generalize hmo : (e - b + 1) % (k : Int) = mo at *
  have hR : e + 1 - b = sz * k + (if ((0 : Nat) : Int) < mo then mo - ((0 : Nat) : Int) else 0) := by
    rw [Int.mul_comm]
    by_cases c : ((0 : Nat) : Int) < mo
    · rw [if_pos c]; omega
    · rw [if_neg c]; omega
  obtain ⟨x3', x7', x8', h⟩ := loop_spans e sz mo (some (.d (.int b))) (some (.d (.int e))) (some (.d (.int k))) k k 0 b [] none none (by omega) (by simp; omega) hmod.1 hmod.2 hR
  rw [List.nil_append] at h
  generalize (colL e k b).map ptD = L at *
  have ef : ∀ ρ : Pi.Env, ρ[6]? = some (some (.ref 0)) → mFrzR (mVar 6) ρ [.lst L] = .ok (.d (.list L)) [.gone] := fun ρ h => frzR_of _ _ _ (n := 0) (S1 := [.lst L]) (by simp [h]) rfl
  unfold f_spans_of_1
  simp [startR, hdv, hr, hz]
  rw [h]
  simp [ef]
end G94

set_option Elab.async false
set_option linter.all false
set_option maxRecDepth 100000
set_option exponentiation.threshold 10000
/-! L94n: columns asked. -/
namespace G94
open PySem Pi
theorem p_need_columns {lo hi : Int} {k : Nat} (hs : 0 ≤ lo ∧ lo ≤ hi ∧ hi ≤ 1000000000000000) (hk : 1 ≤ k ∧ k ≤ 256) (he : (k : Int) ≤ hi + 1 - lo) (S : Store) : runP m_need_columns [.int lo, .int hi, .int k] S = .ok (.d .none) S := by
  refine runP_ok (S' := []) S ?_
  unfold m_need_columns
  rw [fnR_ev]
  have h1 : (1 : Int) ≤ k := by omega
  have hmin : minD [.int 256, .int (hi - lo + 1)] = some (.int (min 256 (hi - lo + 1))) := rfl
  have h2 : (k : Int) ≤ min 256 (hi - lo + 1) := by omega
  generalize min 256 (hi - lo + 1) = M at *
  simp [startR, p_need_span hs, hmin, p_whole, h1, h2, truD]
/-- the cells of columns -/
def colsD (A : List Pt) (sp : List Pt) : List D := sp.map fun s => optC (optP (rng s.1 (s.2 + 1) A))
theorem p_columns_of {A : List Pt} (u : Up A) (hb : ∀ p ∈ A, (0 ≤ p.1 ∧ p.1 ≤ 1000000000000000) ∧ (-1000000000000 ≤ p.2 ∧ p.2 ≤ 1000000000000)) (hl : A.length ≤ 4096) {lo hi : Int} {k : Nat} (hs : 0 ≤ lo ∧ lo ≤ hi ∧ hi ≤ 1000000000000000) (hk : 1 ≤ k ∧ k ≤ 256) (he : (k : Int) ≤ hi + 1 - lo) (S : Store) :
    runP m_columns_of [.tuple (A.map ptD), .int lo, .int hi, .int k] S = .ok (.d (.tuple (colsD A (colL hi k lo)))) S := by
  refine runP_ok (S' := []) S ?_
  unfold m_columns_of
  rw [fnR_ev]
  have lc : lcLoop [some (.d (.tuple (A.map ptD))), some (.d (.int lo)), some (.d (.int hi)), some (.d (.int k)), none, none] (gT [gN 4, gN 5]) mYes (mCallP m_cell_of (mCons (mCallP m_points_in (mCons (mVar 0) (mCons (mVar 4) (mCons (mVar 5) mNil)))) mNil)) ((colL hi k lo).map ptD) [] = .ok (colsD A (colL hi k lo)) [] := by
    refine lc_all ptD fun s _ => ⟨[some (.d (.tuple (A.map ptD))), some (.d (.int lo)), some (.d (.int hi)), some (.d (.int k)), some (.d (.int s.1)), some (.d (.int s.2))], rfl, ?_⟩
    have h1 := p_points_in (X := .tuple (A.map ptD)) (pts := A) rfl (by omega) s.1 s.2 []
    have h2 := p_cell_of (rng s.1 (s.2 + 1) A) (by have := rng_len s.1 (s.2 + 1) A; omega) []
    generalize (rng s.1 (s.2 + 1) A).map ptD = B at *
    simp [h1, h2]
  have hsp := p_spans_of (b := lo) (e := hi) (k := k) ⟨hk.1, by omega⟩ he []
  have hln : (colsD A (colL hi k lo)).length ≤ 16777216 := by unfold colsD; rw [List.length_map, colL_len]; omega
  have hp := p_need_points u hb hl []
  generalize colsD A (colL hi k lo) = R at *
  generalize (colL hi k lo).map ptD = L at *
  simp [startR, hp, p_need_columns hs hk he, hsp, lc, hz, hln]
theorem p_column_spans {lo hi : Int} {k : Nat} (hs : 0 ≤ lo ∧ lo ≤ hi ∧ hi ≤ 1000000000000000) (hk : 1 ≤ k ∧ k ≤ 256) (he : (k : Int) ≤ hi + 1 - lo) (S : Store) : runP m_column_spans [.int lo, .int hi, .int k] S = .ok (.d (.tuple ((colL hi k lo).map ptD))) S := by
  refine runP_ok (S' := []) S ?_
  unfold m_column_spans
  rw [fnR_ev]
  have hsp := p_spans_of (b := lo) (e := hi) (k := k) ⟨hk.1, by omega⟩ he []
  generalize (colL hi k lo).map ptD = L at *
  simp [startR, p_need_columns hs hk he, hsp]
theorem w_columns {S : Store} {n p c : Nat} {b m : Int} {P : List Pt} {C : List (K2 × CT)} (hb : 0 < b ∧ b ≤ 1000000000) (hP : Ps P) (hl : P.length ≤ 900) {lo hi : Int} {k : Nat} (hs : 0 ≤ lo ∧ lo ≤ hi ∧ hi ≤ 1000000000000000) (hk : 1 ≤ k ∧ k ≤ 256) (he : (k : Int) ≤ hi + 1 - lo) (h : VS S n p c b P C m) (hM : CI b (srt P) C) :
    m_View_columns [.ref n, .d (.int lo), .d (.int hi), .d (.int k)] S = .ok (.d (.tuple (colsD (srt P) (colL hi k lo)))) S := by
  unfold m_View_columns
  rw [fnR_ev]
  have lc : lcLoop [some (.ref n), some (.d (.int lo)), some (.d (.int hi)), some (.d (.int k)), none, none] (gT [gN 4, gN 5]) mYes (mOp2 ixD (mMeth "View" (Str.ofString "span") m_View_span (mVar 0) (mCons (mVar 4) (mCons (mVar 5) mNil))) (mD (.int 0))) ((colL hi k lo).map ptD) S = .ok (colsD (srt P) (colL hi k lo)) S := by
    refine lc_all ptD fun s hsm => ⟨[some (.ref n), some (.d (.int lo)), some (.d (.int hi)), some (.d (.int k)), some (.d (.int s.1)), some (.d (.int s.2))], rfl, ?_⟩
    have ho := colL_ok hi k lo he s hsm
    have h1 := w_span hb hP hl (lo := s.1) (hi := s.2) ⟨by omega, by omega, by omega⟩ h hM
    generalize optC (optP (rng s.1 (s.2 + 1) (srt P))) = W at *
    simp [h.kSpan, h1]
  have hsp := p_spans_of (b := lo) (e := hi) (k := k) ⟨hk.1, by omega⟩ he S
  have hln : (colsD (srt P) (colL hi k lo)).length ≤ 16777216 := by unfold colsD; rw [List.length_map, colL_len]; omega
  generalize colsD (srt P) (colL hi k lo) = R at *
  generalize (colL hi k lo).map ptD = L at *
  simp [startR, p_need_columns hs hk he, hsp, lc, hz, hln]
theorem w_work {S : Store} {n p c : Nat} {b m : Int} {P : List Pt} {C : List (K2 × CT)} (h : VS S n p c b P C m) : m_View_work [.ref n] S = .ok (.d (.int m)) S := by
  unfold m_View_work
  rw [fnR_ev]
  simp [startR, h.fM]
/-! ### cells sorted -/
abbrev pairC (e : K2 × CT) : D := .tuple [kD e.1, cD e.2]
theorem pairs_encC : ∀ L : List (K2 × CT), pairsR (encC L) = some (L.map pairC)
  | [] => rfl
  | e :: L => by
    show (match pairsR (encC L) with | some r => some (PyData.tuple [kD e.1, cD e.2] :: r) | none => none) = _
    rw [pairs_encC L]
    rfl
theorem ok_cells (L : List (K2 × CT)) (h : L.length ≤ 1000000) : (okSort (L.map pairC) && noLs (L.map pairC)) = true := by
  have h2 : ∀ L : List (K2 × CT), noLs (L.map pairC) = true := fun L => by
    induction L with
    | nil => rfl
    | cons p r ih => rw [List.map_cons, noLs, ih]; simp [noL, noLs]
  rw [h2, Bool.and_true]
  unfold okSort
  simp only [Bool.and_eq_true, Bool.or_eq_true, List.all_eq_true, List.mem_map, decide_eq_true_eq, List.length_map]
  refine ⟨?_, .inl ?_, ?_, by rw [hz]; omega⟩
  · rintro _ ⟨p, _, rfl⟩ _ ⟨q, _, rfl⟩
    simp [PySem.W.alike, PySem.W.alikeAll]
  · rintro _ ⟨p, _, rfl⟩
    rfl
  · rintro _ ⟨p, _, rfl⟩
    simp [PyData.depth, PyData.depthAll]
def leC (x y : K2 × CT) : Bool := PySem.W.dataLe false id (pairC x) (pairC y)
def srtC (L : List (K2 × CT)) : List (K2 × CT) := sortBy leC L
theorem sort_cells (L : List (K2 × CT)) : sortD (L.map pairC) = (srtC L).map pairC := by
  unfold sortD
  rw [sortBy_map]
  rfl
theorem leC_tr (a b c : K2 × CT) (h1 : leC a b = true) (h2 : leC b c = true) : leC a c = true := (PySem.W.sortLe_total _ false _).trans _ _ _ h1 h2
theorem leC_to (a b : K2 × CT) : (leC a b || leC b a) = true := Bool.or_eq_true_iff.mpr ((PySem.W.sortLe_total _ false _).total _ _)
end G94

set_option Elab.async false
set_option linter.all false
set_option maxRecDepth 100000
set_option exponentiation.threshold 10000
/-! L94o: cells sorted. -/
namespace G94
open PySem Pi
theorem leC_key {a b : K2 × CT} (h : a.1 ≠ b.1) : leC a b = decide (a.1.1 < b.1.1 ∨ (a.1.1 = b.1.1 ∧ a.1.2 < b.1.2)) := by
  have ha : PySem.W.alike (kD b.1) (kD a.1) = true := by simp [PySem.W.alike, PySem.W.alikeAll]
  have hc : PySem.W.alike (cD b.2) (cD a.2) = true := by simp [PySem.W.alike, PySem.W.alikeAll]
  have he : PyData.eqv (kD b.1) (kD a.1) = false := by
    rw [Bool.eq_false_iff]
    intro e
    have := (eqv_pure _ _ (by simp [pureT, pureTs]) (by simp [pureT, pureTs])).mp e
    simp at this
    exact h (Prod.ext this.1.symm this.2.symm)
  show (!PySem.W.dataLt (pairC b) (pairC a)) = _
  rw [PySem.W.dataLt_pair ha hc, he, if_neg (by decide), PySem.W.dataLt_ii]
  rw [← decide_not]
  rw [decide_eq_decide]
  have hne : ¬ (a.1.1 = b.1.1 ∧ a.1.2 = b.1.2) := fun e => h (Prod.ext e.1 e.2)
  omega
theorem leC_anti {a b : K2 × CT} (h1 : leC a b = true) (h2 : leC b a = true) : a.1 = b.1 := by
  by_cases e : a.1 = b.1
  · exact e
  · rw [leC_key e] at h1
    rw [leC_key (fun z => e z.symm)] at h2
    have := of_decide_eq_true h1
    have := of_decide_eq_true h2
    omega
/-- dicts that say the same hold the same pairs -/
theorem same_perm {L M : List (K2 × CT)} (hL : (L.map (·.1)).Nodup) (hM : (M.map (·.1)).Nodup) (h : ∀ k, getA L k = getA M k) : L.Perm M := by
  have n1 : L.Nodup := List.Pairwise.imp (fun h e => h (by rw [e])) (List.pairwise_map.mp hL)
  have n2 : M.Nodup := List.Pairwise.imp (fun h e => h (by rw [e])) (List.pairwise_map.mp hM)
  rw [List.perm_ext_iff_of_nodup n1 n2]
  rintro ⟨k, v⟩
  rw [mem_get hL, mem_get hM, h]
theorem srtC_eq {L M : List (K2 × CT)} (hL : (L.map (·.1)).Nodup) (hM : (M.map (·.1)).Nodup) (h : ∀ k, getA L k = getA M k) : srtC L = srtC M := by
  have hp := same_perm hL hM h
  refine List.Perm.eq_of_pairwise (le := fun a b => leC a b = true) (fun a b ha hb h1 h2 => ?_) (sortBy_sorted leC_tr leC_to L) (sortBy_sorted leC_tr leC_to M) ((sortBy_perm L).trans (hp.trans (sortBy_perm M).symm))
  have e := leC_anti h1 h2
  have m1 := (mem_get hL).mp ((sortBy_perm (le := leC) L).subset ha)
  have m2 := (mem_get hM).mp ((sortBy_perm (le := leC) M).subset hb)
  rw [h, e, m2] at m1
  exact Prod.ext e (Option.some.inj m1).symm
theorem itemsH_enc (C : List (K2 × CT)) (h : C.length < 1000000) : itemsH (encC C) = some ((srtC C).map pairC) := by
  unfold itemsH
  rw [if_pos (by unfold encC; rw [List.length_map]; exact h), pairs_encC]
  show (if (okSort (C.map pairC) && noLs (C.map pairC)) = true then some (sortD (C.map pairC)) else none) = _
  rw [if_pos (ok_cells C (by omega)), sort_cells]
theorem sorted_cells (L : List (K2 × CT)) (h : L.length ≤ 1000000) : sortedD [.list (L.map pairC)] = some ((srtC L).map pairC) := by
  show (if okSort (L.map pairC) = true then some (sortD (L.map pairC)) else none) = _
  rw [if_pos (Bool.and_eq_true_iff.mp (ok_cells L h)).1, sort_cells]
theorem w_all {S : Store} {n p c : Nat} {b m : Int} {P : List Pt} {C : List (K2 × CT)} (h : VS S n p c b P C m) (hC : C.length < 1000000) : m_View_all_cells [.ref n] S = .ok (.d (.tuple ((srtC C).map pairC))) S := by
  unfold m_View_all_cells
  rw [fnR_ev]
  have e := sortH_of (startR 1 [.ref n]) S (mFld "View" (Str.ofString "cells") (mVar 0)) (n := c) (S1 := S) (by simp [startR, h.fC]) h.cel (itemsH_enc C hC) 
  generalize (srtC C).map pairC = L at *
  rw [mRet_ev, mCB_ev, mCons_ev, mFrz_ev, e]
  simp
end G94

set_option Elab.async false
set_option linter.all false
set_option maxRecDepth 100000
set_option exponentiation.threshold 10000
/-! L94p: the law's pyramid. -/
namespace G94
open PySem Pi
def plc (b : Int) (A : List Pt) (l : Nat) : List Int := sortU (A.map fun p => p.1 / wd b l)
def levL (b : Int) (A : List Pt) (l : Nat) (qs : List Int) : List (K2 × CT) := qs.map fun q => (((l : Int), q), cellOf (blk b A l q))
def pyrL (b : Int) (A : List Pt) : Nat → List (K2 × CT)
  | 0 => []
  | n + 1 => pyrL b A n ++ levL b A n (plc b A n)
theorem mem_plc {b : Int} (hb : 0 < b) {A : List Pt} {l : Nat} {q : Int} : q ∈ plc b A l ↔ blk b A l q ≠ [] := by
  unfold plc
  rw [sortU_mem, List.mem_map, blk_eq hb]
  constructor
  · rintro ⟨p, h1, h2⟩ e
    have : p ∈ A.filter fun p => decide (p.1 / wd b l = q) := List.mem_filter.mpr ⟨h1, decide_eq_true h2⟩
    rw [e] at this
    cases this
  · intro h
    cases e : A.filter fun p => decide (p.1 / wd b l = q) with
    | nil => exact absurd e h
    | cons p r =>
      have : p ∈ A.filter fun p => decide (p.1 / wd b l = q) := by rw [e]; exact List.mem_cons_self
      obtain ⟨h1, h2⟩ := List.mem_filter.mp this
      exact ⟨p, h1, of_decide_eq_true h2⟩
theorem optP_cell {B : List Pt} (h : B ≠ []) : optP B = some (cellOf B) := by
  cases B with
  | nil => exact absurd rfl h
  | cons p r => rfl
theorem getA_levL (b : Int) (A : List Pt) (l : Nat) (l' q : Int) : ∀ qs : List Int, getA (levL b A l qs) (l', q) = if l' = l ∧ q ∈ qs then some (cellOf (blk b A l q)) else none
  | [] => by simp [levL, getA_nil]
  | x :: qs => by
    have ih := getA_levL b A l l' q qs
    unfold levL at ih ⊢
    rw [List.map_cons, getA_cons, ih]
    by_cases h1 : l' = l
    · by_cases h2 : x = q
      · subst h2; subst h1; simp
      · have e : ¬ (((l : Int), x) = (l', q)) := fun e => h2 (Prod.ext_iff.mp e).2
        have : ¬ q = x := fun e => h2 e.symm
        rw [if_neg e]
        simp [h1, this]
    · have e : ¬ (((l : Int), x) = (l', q)) := fun e => h1 (Prod.ext_iff.mp e).1.symm
      simp [e, h1]
theorem getA_lev {b : Int} (hb : 0 < b) (A : List Pt) (l : Nat) (l' q : Int) : getA (levL b A l (plc b A l)) (l', q) = if l' = l then optP (blk b A l q) else none := by
  rw [getA_levL]
  by_cases h1 : l' = l
  · by_cases h2 : blk b A l q = []
    · rw [if_neg (fun z => (mem_plc hb).mp z.2 h2), if_pos h1, h2]; rfl
    · rw [if_pos ⟨h1, (mem_plc hb).mpr h2⟩, if_pos h1, optP_cell h2]
  · rw [if_neg (fun z => h1 z.1), if_neg h1]
theorem getA_pyr {b : Int} (hb : 0 < b) (A : List Pt) : ∀ (n : Nat) (l q : Int), getA (pyrL b A n) (l, q) = if 0 ≤ l ∧ l < n then optP (blk b A l.toNat q) else none
  | 0, l, q => by rw [if_neg (by omega)]; rfl
  | n + 1, l, q => by
    show getA (pyrL b A n ++ _) _ = _
    rw [getA_app, getA_pyr hb A n, getA_lev hb]
    by_cases h1 : 0 ≤ l ∧ l < n
    · have h2 : ¬ l = (n : Int) := by omega
      have h3 : 0 ≤ l ∧ l < ((n + 1 : Nat) : Int) := by omega
      rw [if_pos h1, if_neg h2, if_pos h3]
      cases optP (blk b A l.toNat q) <;> rfl
    · rw [if_neg h1]
      by_cases h2 : l = n
      · subst h2
        have h3 : 0 ≤ (n : Int) ∧ (n : Int) < ((n + 1 : Nat) : Int) := by omega
        rw [if_pos rfl, if_pos h3, Int.toNat_natCast]
        rfl
      · have h3 : ¬ (0 ≤ l ∧ l < ((n + 1 : Nat) : Int)) := by omega
        rw [if_neg h2, if_neg h3]
        rfl
theorem nodup_lev (b : Int) (A : List Pt) (l : Nat) : ((levL b A l (plc b A l)).map (·.1)).Nodup := by
  unfold levL
  rw [List.map_map]
  have h : (plc b A l).Nodup := (sortU_lt _).imp fun h e => by omega
  exact List.pairwise_map.mpr (h.imp fun hne e => hne (Prod.ext_iff.mp e).2)
theorem nodup_pyr {b : Int} (hb : 0 < b) (A : List Pt) : ∀ n, ((pyrL b A n).map (·.1)).Nodup
  | 0 => List.nodup_nil
  | n + 1 => by
    show ((pyrL b A n ++ _).map (·.1)).Nodup
    rw [List.map_append, List.nodup_append]
    refine ⟨nodup_pyr hb A n, nodup_lev b A n, fun x hx y hy e => ?_⟩
    subst e
    obtain ⟨l, q⟩ := x
    have h1 := (mem_key _ _).mp hx
    have h2 := (mem_key _ _).mp hy
    rw [getA_pyr hb] at h1
    rw [getA_lev hb] at h2
    split at h1
    · split at h2
      · omega
      · cases h2
    · cases h1
theorem pyr_CI {b : Int} (hb : 0 < b) (A : List Pt) : CI b A (pyrL b A 51) := ⟨nodup_pyr hb A 51, fun l q => by
  rw [getA_pyr hb]
  by_cases h : 0 ≤ l ∧ l < 51
  · rw [if_pos (show 0 ≤ l ∧ l < ((51 : Nat) : Int) from h), if_pos h]
    split <;> rfl
  · rw [if_neg (show ¬ (0 ≤ l ∧ l < ((51 : Nat) : Int)) from h), if_neg h]⟩
theorem CI.same {b : Int} {A : List Pt} {C C' : List (K2 × CT)} (h : CI b A C) (h' : CI b A C') : srtC C = srtC C' := srtC_eq h.nd h'.nd fun k => by
  obtain ⟨l, q⟩ := k
  rw [h.at_, h'.at_]
/-! run -/
theorem loop_places {b : Int} (hb : 0 < b) {A : List Pt} (hl : A.length ≤ 50) (l : Nat) : ∀ (qs : List Int) (acc : List D) (x5 x6 x7 : Option R), (∀ q ∈ qs, blk b A l q ≠ [] ∧ -(2 ^ 62) < q ∧ q < 2 ^ 62) → acc.length + qs.length ≤ 100000 →
    ∃ x5' x6' x7', forLoop (gN 5) b__law_pyramid_2 (qs.map .int) [some (.d (.tuple (A.map ptD))), some (.d (.int b)), some (.ref 0), some (.d (.int (wd b l))), some (.d (.int l)), x5, x6, x7] [.lst acc] =
      .nx [some (.d (.tuple (A.map ptD))), some (.d (.int b)), some (.ref 0), some (.d (.int (wd b l))), some (.d (.int l)), x5', x6', x7'] [.lst (acc ++ (levL b A l qs).map pairC)]
  | [], acc, x5, x6, x7, _, _ => ⟨x5, x6, x7, by simp [levL]⟩
  | q :: qs, acc, x5, x6, x7, hq, hn => by
    obtain ⟨x5', x6', x7', ih⟩ := loop_places hb hl l qs (acc ++ [pairC (((l : Int), q), cellOf (blk b A l q))]) (some (.d (.int q))) x6 x7 (fun z hz => hq z (List.mem_cons_of_mem _ hz)) (by simp at hn ⊢; omega)
    refine ⟨x5', x6', x7', ?_⟩
    obtain ⟨hne, hb1, hb2⟩ := hq q List.mem_cons_self
    have m1 : mulD (.int q) (.int (wd b l)) = some (.int (q * wd b l)) := mulD_int (mulOk_l (by omega))
    have m2 : mulD (.int (q + 1)) (.int (wd b l)) = some (.int ((q + 1) * wd b l)) := mulD_int (mulOk_l (by omega))
    have lc : lcLoop [some (.d (.tuple (A.map ptD))), some (.d (.int b)), some (.ref 0), some (.d (.int (wd b l))), some (.d (.int l)), some (.d (.int q)), none, none] (gT [gN 6, gN 7]) (mB (mChain leD ltD (mOp2 mulD (mVar 5) (mVar 3)) (mVar 6) (mOp2 mulD (mOp2 addD (mVar 5) (mD (.int 1))) (mVar 3)))) (mTup (mCons (mVar 6) (mCons (mVar 7) mNil))) (A.map ptD) [.lst acc] = .ok ((blk b A l q).map ptD) [.lst acc] := by
      unfold blk rng
      refine lc_of ptD fun x _ => ⟨[some (.d (.tuple (A.map ptD))), some (.d (.int b)), some (.ref 0), some (.d (.int (wd b l))), some (.d (.int l)), some (.d (.int q)), some (.d (.int x.1)), some (.d (.int x.2))], rfl, ?_, fun _ => by simp [hz]⟩
      by_cases c1 : q * wd b l ≤ x.1 <;> by_cases c2 : x.1 < (q + 1) * wd b l <;> simp [m1, m2, c1, c2]
    have hbl : (blk b A l q).length ≤ A.length := rng_len _ _ _
    have hcell := p_law_cell (blk b A l q) (by omega) [.lst acc]
    rw [optP_cell hne] at hcell
    have hap := app0 (acc := acc) (by simp at hn; omega) (pairC (((l : Int), q), cellOf (blk b A l q)))
    have hil : isL [.lst acc] (.ref 0) = true := rfl
    have hlev : (levL b A l (q :: qs)) = (((l : Int), q), cellOf (blk b A l q)) :: levL b A l qs := rfl
    have hln : ((blk b A l q).map ptD).length ≤ 16777216 := by rw [List.length_map]; omega
    rw [hlev, List.map_cons]
    rw [List.map_cons]
    refine forN_of (ρ1 := [some (.d (.tuple (A.map ptD))), some (.d (.int b)), some (.ref 0), some (.d (.int (wd b l))), some (.d (.int l)), some (.d (.int q)), x6, x7]) (S1 := [.lst (acc ++ [pairC (((l : Int), q), cellOf (blk b A l q))])]) ?_ (by rw [ih, List.append_assoc]; rfl)
    simp only [optC_some] at hcell
    generalize hcc : cellOf (blk b A l q) = cc at *
    generalize (blk b A l q).map ptD = B at *
    generalize hAD : A.map ptD = AD at *
    unfold b__law_pyramid_2
    simp only [pairC, kD] at hap ⊢
    simp [lc, hcell, hap, hil, hz, hln]
theorem plc_bd {b : Int} (hb : 0 < b) {A : List Pt} (hA : ∀ p ∈ A, 0 ≤ p.1 ∧ p.1 ≤ 1000000000000000) (l : Nat) : ∀ q ∈ plc b A l, 0 ≤ q ∧ q ≤ 1000000000000000 := fun q hq => by
  unfold plc at hq
  rw [sortU_mem] at hq
  obtain ⟨p, h1, rfl⟩ := List.mem_map.mp hq
  have hw := wd_pos hb l
  exact ⟨Int.ediv_nonneg (hA p h1).1 (by omega), Int.le_trans (Int.ediv_le_self _ (hA p h1).1) (hA p h1).2⟩
theorem insU_len (x : Int) : ∀ l : List Int, (insU x l).length ≤ l.length + 1
  | [] => Nat.le_refl _
  | y :: l => by
    unfold insU
    split
    · simp
    · split
      · simp
      · rw [List.length_cons, List.length_cons]
        have := insU_len x l
        omega
theorem sortU_len : ∀ l : List Int, (sortU l).length ≤ l.length
  | [] => Nat.le_refl _
  | x :: l => by
    have h1 := insU_len x (sortU l)
    have h2 := sortU_len l
    show (insU x (sortU l)).length ≤ _
    rw [List.length_cons]
    omega
theorem plc_len (b : Int) (A : List Pt) (l : Nat) : (plc b A l).length ≤ A.length := by
  have := sortU_len (A.map fun p => p.1 / wd b l)
  rw [List.length_map] at this
  exact this
theorem wd_lt {b : Int} (hb : 0 < b ∧ b ≤ 1000000000) {l : Nat} (hl : l ≤ 60) : wd b l < 2 ^ 4096 := by
  unfold wd
  have h1 : (2 : Int) ^ l ≤ 2 ^ 60 := by
    have := Nat.pow_le_pow_right (show 0 < 2 by decide) hl
    have e : ((2 : Int) ^ l) = ((2 ^ l : Nat) : Int) := by simp
    rw [e]
    have : ((2 ^ l : Nat) : Int) ≤ ((2 ^ 60 : Nat) : Int) := by omega
    exact Int.le_trans this (by decide)
  have h2 : b * 2 ^ l ≤ 1000000000 * 2 ^ 60 := Int.mul_le_mul hb.2 h1 (Int.le_of_lt (Int.pow_pos (by decide))) (by decide)
  exact Int.lt_of_le_of_lt h2 (by decide)
theorem levels {b : Int} (hb : 0 < b ∧ b ≤ 1000000000) {A : List Pt} (hA : ∀ p ∈ A, 0 ≤ p.1 ∧ p.1 ≤ 1000000000000000) (hl : A.length ≤ 50) : ∀ (d l : Nat) (acc : List D) (x4 x5 x6 x7 : Option R), l + d = 51 → acc.length ≤ 50 * l →
    ∃ x3' x4' x5' x6' x7', forLoop (gN 4) b__law_pyramid_1 ((List.range' l d).map fun i : Nat => .int (i : Int)) [some (.d (.tuple (A.map ptD))), some (.d (.int b)), some (.ref 0), some (.d (.int (wd b l))), x4, x5, x6, x7] [.lst (acc ++ [])] =
      .nx [some (.d (.tuple (A.map ptD))), some (.d (.int b)), some (.ref 0), x3', x4', x5', x6', x7'] [.lst (acc ++ ((List.range' l d).flatMap fun l => levL b A l (plc b A l)).map pairC)]
  | 0, l, acc, x4, x5, x6, x7, _, _ => ⟨some (.d (.int (wd b l))), x4, x5, x6, x7, by simp⟩
  | d + 1, l, acc, x4, x5, x6, x7, hd, hacc => by
    have hpl := plc_len b A l
    have hpb := plc_bd hb.1 hA l
    obtain ⟨x5', x6', x7', h1⟩ := loop_places hb.1 hl l (plc b A l) acc x5 x6 x7 (fun q hq => ⟨(mem_plc hb.1).mp hq, by have := hpb q hq; omega, by have := hpb q hq; omega⟩) (by omega)
    have hll : (levL b A l (plc b A l)).length = (plc b A l).length := by unfold levL; rw [List.length_map]
    obtain ⟨y3, y4, y5, y6, y7, ih⟩ := levels hb hA hl d (l + 1) (acc ++ (levL b A l (plc b A l)).map pairC) (some (.d (.int l))) x5' x6' x7' (by omega) (by rw [List.length_append, List.length_map, hll]; omega)
    refine ⟨y3, y4, y5, y6, y7, ?_⟩
    rw [List.range'_succ, List.map_cons]
    rw [List.append_nil] at ih ⊢
    have m1 : mulD (.int 2) (.int (wd b l)) = some (.int (wd b (l + 1))) := by rw [mulD_int (mulOk_l (by omega)), wd_succ, Int.mul_comm]
    have dv : ∀ t : Int, divD (.int t) (.int (wd b l)) = some (.int (t / wd b l)) := fun t => divD_int (wd_pos hb.1 l) (wd_lt hb (by omega))
    have lc : lcLoop [some (.d (.tuple (A.map ptD))), some (.d (.int b)), some (.ref 0), some (.d (.int (wd b l))), some (.d (.int l)), x5, none, none] (gT [gN 6, gN 7]) mYes (mOp2 divD (mVar 6) (mVar 3)) (A.map ptD) [.lst acc] = .ok (A.map fun p => .int (p.1 / wd b l)) [.lst acc] := by
      refine lc_all ptD fun x _ => ⟨[some (.d (.tuple (A.map ptD))), some (.d (.int b)), some (.ref 0), some (.d (.int (wd b l))), some (.d (.int l)), x5, some (.d (.int x.1)), some (.d (.int x.2))], rfl, ?_⟩
      simp [dv]
    have hin : intsD (A.map fun p => PyData.int (p.1 / wd b l)) = some (A.map fun p => p.1 / wd b l) := by
      have := intsD_map (A.map fun p => p.1 / wd b l)
      rw [List.map_map] at this
      exact this
    have l1 : (A.map fun p => PyData.int (p.1 / wd b l)).length ≤ 16777216 := by rw [List.length_map]; omega
    have l2 : (A.map fun p => p.1 / wd b l).length < 60 := by rw [List.length_map]; omega
    refine forN_of (ρ1 := [some (.d (.tuple (A.map ptD))), some (.d (.int b)), some (.ref 0), some (.d (.int (wd b (l + 1)))), some (.d (.int l)), x5', x6', x7']) (S1 := [.lst (acc ++ (levL b A l (plc b A l)).map pairC)]) ?_ (by rw [ih, List.flatMap_cons, List.map_append, List.append_assoc])
    have hpe : sortU (A.map fun p => p.1 / wd b l) = plc b A l := rfl
    generalize plc b A l = QS at *
    generalize hAD : A.map ptD = AD at *
    refine seq_of (ρ1 := [some (.d (.tuple AD)), some (.d (.int b)), some (.ref 0), some (.d (.int (wd b l))), some (.d (.int l)), x5', x6', x7']) (S1 := [.lst (acc ++ (levL b A l QS).map pairC)]) ?_ ?_
    · refine mFor_of (ds := QS.map .int) (S1 := [.lst acc]) ?_ h1
      simp only [mItS_ev, mFrz_ev, mSortSet_ev, mLc_ev, mVar_ev]
      have l3 : A.length ≤ 16777216 := by omega
      have l4 : A.length < 60 := by omega
      simp [lc, hin, hz, l3, l4, hpe]
    · simp [m1]
theorem pyr_flat (b : Int) (A : List Pt) : ∀ n, (List.range' 0 n).flatMap (fun l => levL b A l (plc b A l)) = pyrL b A n
  | 0 => rfl
  | n + 1 => by
    rw [List.range'_concat, List.flatMap_append, pyr_flat b A n]
    simp [pyrL]
theorem p_law_pyramid {b : Int} (hb : 0 < b ∧ b ≤ 1000000000) {A : List Pt} (hA : ∀ p ∈ A, 0 ≤ p.1 ∧ p.1 ≤ 1000000000000000) (hl : A.length ≤ 50) (S : Store) : runP m__law_pyramid [.tuple (A.map ptD), .int b] S = .ok (.d (.tuple ((srtC (pyrL b A 51)).map pairC))) S := by
  refine runP_ok (S' := [.lst ((pyrL b A 51).map pairC)]) S ?_
  rw [m__law_pyramid_eq, fnR_ev]
  obtain ⟨x3', x4', x5', x6', x7', h⟩ := levels hb hA hl 51 0 [] none none none none rfl (by simp)
  rw [pyr_flat] at h
  have w0 : wd b 0 = b := by simp [wd]
  rw [w0] at h
  have hlen : (pyrL b A 51).length ≤ 1000000 := by
    have := (pyr_CI hb.1 A).len hb.1
    omega
  have hs := sorted_cells (pyrL b A 51) hlen
  have hr : range1 [.int 51] = some ((List.range' 0 51).map fun i : Nat => .int (i : Int)) := by rw [range1_nat (by decide) (by decide)]; rfl
  rw [List.nil_append, List.nil_append] at h
  generalize (List.range' 0 51).map (fun i : Nat => PyData.int (i : Int)) = J at *
  generalize hPL : (pyrL b A 51).map pairC = PL at *
  generalize (srtC (pyrL b A 51)).map pairC = SL at *
  generalize A.map ptD = AD at *
  have e0 : (mSeq (mAsg (gN 2) (mNew (mDisp mNil))) (mSeq (mAsg (gN 3) (mVar 1)) (mSeq f__law_pyramid_1 (mRet (mCB tupleD (mCons (mFrz (mCBL sortedD (mCons (mVar 2) mNil))) mNil)))))) (startR 8 [.d (.tuple AD), .d (.int b)]) [] = .rt (.d (.tuple SL)) [.lst PL] := by
    refine seq_of (ρ1 := [some (.d (.tuple AD)), some (.d (.int b)), some (.ref 0), none, none, none, none, none]) (S1 := [.lst []]) (by simp [startR, hz]) ?_
    refine seq_of (ρ1 := [some (.d (.tuple AD)), some (.d (.int b)), some (.ref 0), some (.d (.int b)), none, none, none, none]) (S1 := [.lst []]) (by simp) ?_
    refine seq_of (ρ1 := [some (.d (.tuple AD)), some (.d (.int b)), some (.ref 0), x3', x4', x5', x6', x7']) (S1 := [.lst PL]) (mFor_of (ds := J) (S1 := [.lst []]) (by simp [hr]) h) ?_
    have hrd : rd [Cell.lst PL] (.ref 0) = some (.list PL) := rfl
    simp [hrd, hs]
  show outF _ = _
  rw [show (startR 8 (List.map R.d [PyData.tuple AD, PyData.int b])) = startR 8 [.d (.tuple AD), .d (.int b)] from rfl, e0]
  rfl
end G94

set_option Elab.async false
set_option linter.all false
set_option maxRecDepth 100000
set_option exponentiation.threshold 10000
/-! L94q: the keys of small pyramids have hashes of their own. -/
namespace G94
open PySem Pi
def hK (k : K2) : Int := reduceHash (Builtin.Tuple.tupleHashOf [hashInt k.1, hashInt k.2])
def univ : List K2 := (List.range 51).flatMap fun l : Nat => (List.range (399 / 2 ^ l + 1)).map fun q : Nat => ((l : Int), (q : Int))
/-- no two of one rest -/
def apart (P : Int) : List Int → Nat → Bool
  | [], _ => true
  | x :: l, m => if m.testBit (x % P).toNat = true then false else apart P l (m ||| (1 <<< (x % P).toNat))
theorem apart_ok (P : Int) : ∀ (l : List Int) (m : Nat), apart P l m = true → l.Nodup ∧ ∀ x ∈ l, m.testBit (x % P).toNat = false
  | [], m, _ => ⟨List.nodup_nil, fun x hx => nomatch hx⟩
  | x :: l, m, h => by
    unfold apart at h
    split at h
    · cases h
    · rename_i hx
      obtain ⟨h1, h2⟩ := apart_ok P l _ h
      have hx' : m.testBit (x % P).toNat = false := by simpa using hx
      refine ⟨List.nodup_cons.mpr ⟨fun hm => ?_, h1⟩, fun y hy => ?_⟩
      · have := h2 x hm
        rw [Nat.testBit_or, Nat.one_shiftLeft, Nat.testBit_two_pow_self, Bool.or_true] at this
        cases this
      · rcases List.mem_cons.mp hy with rfl | hy
        · exact hx'
        · have := h2 y hy
          rw [Nat.testBit_or] at this
          exact (Bool.or_eq_false_iff.mp this).1
theorem apart_u : apart 20002 (univ.map hK) 0 = true := by decide +kernel
theorem inj_of {α β : Type} (f : α → β) : ∀ {l : List α}, (l.map f).Nodup → ∀ {a b : α}, a ∈ l → b ∈ l → f a = f b → a = b
  | [], _, a, b, ha, _, _ => nomatch ha
  | x :: l, h, a, b, ha, hb, e => by
    rw [List.map_cons, List.nodup_cons] at h
    rcases List.mem_cons.mp ha with ea | ha <;> rcases List.mem_cons.mp hb with eb | hb
    · rw [ea, eb]
    · rw [ea] at e
      exact absurd (List.mem_map.mpr ⟨b, hb, e.symm⟩) h.1
    · rw [eb] at e
      exact absurd (List.mem_map.mpr ⟨a, ha, e⟩) h.1
    · exact inj_of f h.2 ha hb e
theorem hK_inj {k j : K2} (hk : k ∈ univ) (hj : j ∈ univ) (e : hK k = hK j) : k = j := inj_of hK (apart_ok 20002 _ 0 apart_u).1 hk hj e
theorem hashD_k (k : K2) : hashD (kD k) = some (hK k) := rfl
theorem hashes_enc : ∀ F : List (K2 × CT), hashesD (encC F) = some (F.map fun e => hK e.1)
  | [] => rfl
  | e :: F => by
    show (match hashD (kD e.1), hashesD (encC F) with | some h, some hs => some (h :: hs) | _, _ => none) = _
    rw [hashes_enc F, hashD_k]
    rfl
theorem hash_ok {F : List (K2 × CT)} (nd : (F.map (·.1)).Nodup) (hu : ∀ k ∈ F.map (·.1), k ∈ univ) : hashOk (encC F) = true := by
  unfold hashOk
  rw [hashes_enc]
  refine decide_eq_true ?_
  have : (F.map fun e => hK e.1) = (F.map (·.1)).map hK := by rw [List.map_map]; rfl
  rw [this]
  clear this
  generalize F.map (·.1) = ks at *
  refine List.pairwise_map.mpr ?_
  have := nd
  clear nd
  induction ks with
  | nil => exact .nil
  | cons k ks ih =>
    obtain ⟨h1, h2⟩ := List.nodup_cons.mp this
    refine List.pairwise_cons.mpr ⟨fun j hj e => h1 (by rw [hK_inj (hu k List.mem_cons_self) (hu j (List.mem_cons_of_mem _ hj)) e]; exact hj), ih (fun j hj => hu j (List.mem_cons_of_mem _ hj)) h2⟩
theorem mem_univ {l : Nat} {q : Int} (hl : l < 51) (h0 : 0 ≤ q) (h : q * 2 ^ l ≤ 399) : ((l : Int), q) ∈ univ := by
  unfold univ
  refine List.mem_flatMap.mpr ⟨l, List.mem_range.mpr hl, List.mem_map.mpr ⟨q.toNat, List.mem_range.mpr ?_, ?_⟩⟩
  · have e : ((q.toNat : Nat) : Int) = q := by omega
    have : q.toNat * 2 ^ l ≤ 399 := by
      have h2 : ((q.toNat * 2 ^ l : Nat) : Int) ≤ 399 := by
        rw [Int.natCast_mul, e]
        simpa using h
      omega
    exact Nat.lt_succ_of_le ((Nat.le_div_iff_mul_le (Nat.pow_pos (by decide))).mpr this)
  · rw [show ((q.toNat : Nat) : Int) = q by omega]
end G94

set_option Elab.async false
set_option linter.all false
set_option maxRecDepth 100000
set_option exponentiation.threshold 10000
/-! L94r: the program's pyramid. -/
namespace G94
open PySem Pi
/-- the cells of the lowest level, some points read -/
structure F1 (b : Int) (pre : List Pt) (F : List (K2 × CT)) : Prop where
  nd : (F.map (·.1)).Nodup
  at_ : ∀ l q, getA F (l, q) = if l = 0 then optP (pre.filter fun p => decide (p.1 / b = q)) else none
theorem set_same {S : Store} {p : Nat} {y : Cell} (h : S[p]? = some y) : S.set p y = S := by
  have := set_back (x := y) h
  rw [List.set_set] at this
  exact this
theorem loop_first {b : Int} (hb : 0 < b ∧ b ≤ 1000000000) (f : Nat) : ∀ (A pre : List Pt) (S : Store) (F : List (K2 × CT)) (ρ : Pi.Env), ρ.length = 11 → ρ[1]? = some (some (.d (.int b))) → ρ[2]? = some (some (.ref f)) → S[f]? = some (.dih (encC F)) → F1 b pre F → F.length + A.length ≤ 5000 →
    ∃ ρ' F', Fr [5, 6, 7] ρ ρ' ∧ forLoop (gT [gN 5, gN 6]) b_pyramid_in_3 (A.map ptD) ρ S = .nx ρ' (S.set f (.dih (encC F'))) ∧ F1 b (pre ++ A) F' ∧ F'.length ≤ F.length + A.length
  | [], pre, S, F, ρ, _, _, _, hf, hF, _ => ⟨ρ, F, Fr.refl _ _, by rw [set_same hf]; rfl, by rw [List.append_nil]; exact hF, by simp⟩
  | x :: A, pre, S, F, ρ, hlen, h1, h2, hf, hF, hn => by
    have hlt : f < S.length := (List.getElem?_eq_some_iff.mp hf).1
    have hg := hF.at_ 0 (x.1 / b)
    rw [if_pos rfl] at hg
    have hne : (pre.filter fun p => decide (p.1 / b = x.1 / b)) ++ [x] ≠ [] := by simp
    have hj := p_joinedO (getA F (0, x.1 / b)) (optP [x]) S
    rw [hg, joinO_optP, optP_cell hne] at hj
    have hcell := p_cell_of [x] (by simp) S
    have lk := dlook_dih (x := kD (0, x.1 / b)) _ hf (keyH_k _)
    rw [get_encC, hg] at lk
    have hput := putH_at (x := kD (0, x.1 / b)) (r := .d (cD (cellOf ((pre.filter fun p => decide (p.1 / b = x.1 / b)) ++ [x])))) _ hf (keyH_k _) (by unfold encC; rw [List.length_map, hz]; simp at hn; omega)
    rw [put_encC] at hput
    have hF2 : F1 b (pre ++ [x]) (putA F (0, x.1 / b) (cellOf ((pre.filter fun p => decide (p.1 / b = x.1 / b)) ++ [x]))) := ⟨nodup_put hF.nd _ _, fun l q => by
      rw [getA_put, hF.at_, List.filter_append]
      by_cases c1 : l = 0
      · subst c1
        by_cases c2 : q = x.1 / b
        · subst c2
          rw [if_pos rfl, if_pos rfl, ← optP_cell hne]
          simp
        · have c3 : ¬ ((0 : Int), q) = (0, x.1 / b) := fun e => c2 (Prod.ext_iff.mp e).2
          rw [if_neg c3, if_pos rfl, if_pos rfl]
          have : ([x].filter fun p => decide (p.1 / b = q)) = [] := by
            rw [List.filter_eq_nil_iff]
            intro p hp
            have : p = x := by simpa using hp
            subst this
            simpa using fun e : p.1 / b = q => c2 e.symm
          rw [this, List.append_nil]
      · have c3 : ¬ (l, q) = (0, x.1 / b) := fun e => c1 (Prod.ext_iff.mp e).1
        rw [if_neg c3, if_neg c1, if_neg c1]⟩
    have hln := len_put F (0, x.1 / b) (cellOf ((pre.filter fun p => decide (p.1 / b = x.1 / b)) ++ [x]))
    have hd : divD (.int x.1) (.int b) = some (.int (x.1 / b)) := divD_int hb.1 (Int.lt_of_le_of_lt hb.2 (by decide))
    generalize cellOf ((pre.filter fun p => decide (p.1 / b = x.1 / b)) ++ [x]) = cc at *
    generalize optP (pre.filter fun p => decide (p.1 / b = x.1 / b)) = o at *
    generalize hQ : x.1 / b = Q at *
    generalize hF' : putA F (0, Q) cc = F' at *
    have fr : Fr [5, 6, 7] ρ (((ρ.set 5 (some (.d (.int x.1)))).set 6 (some (.d (.int x.2)))).set 7 (some (.d (kD (0, Q))))) := (((Fr.refl _ ρ).set 5 _).set 6 _).set 7 _
    obtain ⟨ρ', F'', f1, e1, q1, q2⟩ := loop_first hb f A (pre ++ [x]) (S.set f (.dih (encC F'))) F' (((ρ.set 5 (some (.d (.int x.1)))).set 6 (some (.d (.int x.2)))).set 7 (some (.d (kD (0, Q))))) (by rw [fr.len]; exact hlen) (by rw [fr.get 1 (by decide)]; exact h1) (by rw [fr.get 2 (by decide)]; exact h2) (List.getElem?_set_self hlt) hF2 (by simp at hn; omega)
    rw [List.set_set] at e1
    refine ⟨ρ', F'', fr.trans f1, ?_, by rw [List.append_assoc] at q1; exact q1, by simp; omega⟩
    rw [List.map_cons]
    have g1 : ((ρ.set 5 (some (R.d (.int x.1)))).set 6 (some (R.d (.int x.2))))[1]? = _ := set_old (set_old h1)
    have g2 : ((ρ.set 5 (some (R.d (.int x.1)))).set 6 (some (R.d (.int x.2))))[2]? = _ := set_old (set_old h2)
    have g5 : ((ρ.set 5 (some (R.d (.int x.1)))).set 6 (some (R.d (.int x.2))))[5]? = some (some (.d (.int x.1))) := set_old (set_get hlen (by decide))
    have g6 : ((ρ.set 5 (some (R.d (.int x.1)))).set 6 (some (R.d (.int x.2))))[6]? = some (some (.d (.int x.2))) := set_get (n := 11) (by simp [hlen]) (by decide)
    have hl2 : ((ρ.set 5 (some (R.d (.int x.1)))).set 6 (some (R.d (.int x.2)))).length = 11 := by simp [hlen]
    refine forG_of (ρ0 := (ρ.set 5 (some (.d (.int x.1)))).set 6 (some (.d (.int x.2)))) (S0 := S) (ρ1 := ((ρ.set 5 (some (.d (.int x.1)))).set 6 (some (.d (.int x.2)))).set 7 (some (.d (kD (0, Q))))) (S1 := S.set f (.dih (encC F'))) (by simp) ?_ e1
    clear e1 f1 fr
    generalize (ρ.set 5 (some (R.d (.int x.1)))).set 6 (some (R.d (.int x.2))) = ρ1 at *
    unfold b_pyramid_in_3
    refine seq_of (ρ1 := ρ1.set 7 (some (.d (kD (0, Q))))) (S1 := S) (by simp [g1, g5, hd, hz]) ?_
    have k2 : (ρ1.set 7 (some (R.d (kD (0, Q)))))[2]? = _ := set_old g2
    have k5 : (ρ1.set 7 (some (R.d (kD (0, Q)))))[5]? = _ := set_old g5
    have k6 : (ρ1.set 7 (some (R.d (kD (0, Q)))))[6]? = _ := set_old g6
    have k7 : (ρ1.set 7 (some (R.d (kD (0, Q)))))[7]? = some (some (.d (kD (0, Q)))) := set_get hl2 (by decide)
    have hx1 : optC (optP [x]) = cD (cellOf [x]) := rfl
    rw [hx1] at hj hcell
    generalize cD (cellOf [x]) = X1 at *
    simp only [List.map_cons, List.map_nil, optC_some] at hj hcell
    generalize kD (0, Q) = KD at *
    generalize ρ1.set 7 (some (R.d KD)) = ρ2 at *
    simp [k2, k5, k6, k7, isDic_dih _ hf, lk, getD_cell, hcell, hj, hput, hz]
theorem F1.nil (b : Int) : F1 b [] [] := ⟨List.nodup_nil, fun l q => by rw [getA_nil]; split <;> rfl⟩
end G94

set_option Elab.async false
set_option linter.all false
set_option maxRecDepth 100000
set_option exponentiation.threshold 10000
/-! L94s: the program's pyramid, level by level. -/
namespace G94
open PySem Pi
/-- the points below places of a level -/
def under (b : Int) (A : List Pt) (j : Nat) (ks : List Int) (q : Int) : List Pt := ((ks.filter fun k => decide (k / 2 = q)).map fun k => blk b A j k).flatten
structure FL (b : Int) (A : List Pt) (j : Nat) (pre : List Int) (L : List (K2 × CT)) : Prop where
  nd : (L.map (·.1)).Nodup
  at_ : ∀ a q, getA L (a, q) = if a = (j : Int) + 1 then optP (under b A j pre q) else none
theorem FL.nil (b : Int) (A : List Pt) (j : Nat) : FL b A j [] [] := ⟨List.nodup_nil, fun l q => by rw [getA_nil]; split <;> rfl⟩
theorem under_app (b : Int) (A : List Pt) (j : Nat) (pre : List Int) (k q : Int) : under b A j (pre ++ [k]) q = under b A j pre q ++ (if k / 2 = q then blk b A j k else []) := by
  unfold under
  rw [List.filter_append, List.map_append, List.flatten_append]
  congr 1
  by_cases h : k / 2 = q <;> simp [h]
theorem loop_keys {b : Int} {A : List Pt} (j : Nat) (g h : Nat) (hgh : g ≠ h) (G : List (K2 × CT)) (hG : ∀ q, getA G ((j : Int), q) = optP (blk b A j q)) : ∀ (ks pre : List Int) (S : Store) (L : List (K2 × CT)) (ρ : Pi.Env), (∀ k ∈ ks, blk b A j k ≠ []) → ρ.length = 11 → ρ[3]? = some (some (.ref g)) → ρ[4]? = some (some (.d (.int ((j : Int) + 1)))) → ρ[8]? = some (some (.ref h)) →
    S[g]? = some (.dih (encC G)) → S[h]? = some (.dih (encC L)) → FL b A j pre L → L.length + ks.length ≤ 5000 →
    ∃ ρ' L', Fr [7, 9, 10] ρ ρ' ∧ forLoop (gT [gN 9, gN 10]) b_pyramid_in_2 (ks.map fun k => kD ((j : Int), k)) ρ S = .nx ρ' (S.set h (.dih (encC L'))) ∧ FL b A j (pre ++ ks) L' ∧ L'.length ≤ L.length + ks.length
  | [], pre, S, L, ρ, _, _, _, _, _, _, hh, hL, _ => ⟨ρ, L, Fr.refl _ _, by rw [set_same hh]; rfl, by rw [List.append_nil]; exact hL, by simp⟩
  | k :: ks, pre, S, L, ρ, hk, hlen, h3, h4, h8, hg, hh, hL, hn => by
    have hlt : h < S.length := (List.getElem?_eq_some_iff.mp hh).1
    have hat := hL.at_ ((j : Int) + 1) (k / 2)
    rw [if_pos rfl] at hat
    have hbk := hk k List.mem_cons_self
    have hne : under b A j pre (k / 2) ++ blk b A j k ≠ [] := by simp [hbk]
    have hj := p_joinedO (getA L ((j : Int) + 1, k / 2)) (optP (blk b A j k)) S
    rw [hat, joinO_optP, optP_cell hne] at hj
    have lk := dlook_dih (x := kD ((j : Int) + 1, k / 2)) _ hh (keyH_k _)
    rw [get_encC, hat] at lk
    have lg := dlook_dih (x := kD ((j : Int), k)) _ hg (keyH_k _)
    rw [get_encC, hG, optP_cell hbk] at lg
    have hput := putH_at (x := kD ((j : Int) + 1, k / 2)) (r := .d (cD (cellOf (under b A j pre (k / 2) ++ blk b A j k)))) _ hh (keyH_k _) (by unfold encC; rw [List.length_map, hz]; simp at hn; omega)
    rw [put_encC] at hput
    have hL2 : FL b A j (pre ++ [k]) (putA L ((j : Int) + 1, k / 2) (cellOf (under b A j pre (k / 2) ++ blk b A j k))) := ⟨nodup_put hL.nd _ _, fun a q => by
      rw [getA_put, hL.at_, under_app]
      by_cases c1 : a = (j : Int) + 1
      · subst c1
        by_cases c2 : q = k / 2
        · subst c2
          rw [if_pos rfl, if_pos rfl, if_pos rfl, ← optP_cell hne]
        · have c3 : ¬ (((j : Int) + 1), q) = ((j : Int) + 1, k / 2) := fun e => c2 (Prod.ext_iff.mp e).2
          have c4 : ¬ k / 2 = q := fun e => c2 e.symm
          rw [if_neg c3, if_pos rfl, if_pos rfl, if_neg c4, List.append_nil]
      · have c3 : ¬ (a, q) = ((j : Int) + 1, k / 2) := fun e => c1 (Prod.ext_iff.mp e).1
        rw [if_neg c3, if_neg c1, if_neg c1]⟩
    have hln := len_put L ((j : Int) + 1, k / 2) (cellOf (under b A j pre (k / 2) ++ blk b A j k))
    have hd : divD (.int k) (.int 2) = some (.int (k / 2)) := divD_int (by decide) (by decide)
    have hcb : optC (optP (blk b A j k)) = cD (cellOf (blk b A j k)) := by rw [optP_cell hbk]; rfl
    rw [hcb] at hj
    generalize cellOf (under b A j pre (k / 2) ++ blk b A j k) = cc at *
    generalize optP (under b A j pre (k / 2)) = o at *
    generalize cellOf (blk b A j k) = cb at *
    generalize k / 2 = Q at *
    generalize putA L ((j : Int) + 1, Q) cc = L' at *
    have fr : Fr [7, 9, 10] ρ (((ρ.set 9 (some (.d (.int j)))).set 10 (some (.d (.int k)))).set 7 (some (.d (kD ((j : Int) + 1, Q))))) := (((Fr.refl _ ρ).set 9 _).set 10 _).set 7 _
    obtain ⟨ρ', L'', f1, e1, q1, q2⟩ := loop_keys j g h hgh G hG ks (pre ++ [k]) (S.set h (.dih (encC L'))) L' (((ρ.set 9 (some (.d (.int j)))).set 10 (some (.d (.int k)))).set 7 (some (.d (kD ((j : Int) + 1, Q))))) (fun z hz => hk z (List.mem_cons_of_mem _ hz)) (by rw [fr.len]; exact hlen) (by rw [fr.get 3 (by decide)]; exact h3) (by rw [fr.get 4 (by decide)]; exact h4) (by rw [fr.get 8 (by decide)]; exact h8) (by rw [List.getElem?_set_ne (Ne.symm hgh)]; exact hg) (List.getElem?_set_self hlt) hL2 (by simp at hn; omega)
    rw [List.set_set] at e1
    refine ⟨ρ', L'', fr.trans f1, ?_, by rw [List.append_assoc] at q1; exact q1, by simp; omega⟩
    rw [List.map_cons]
    have g3 : ((ρ.set 9 (some (R.d (.int j)))).set 10 (some (R.d (.int k))))[3]? = _ := set_old (set_old h3)
    have g4 : ((ρ.set 9 (some (R.d (.int j)))).set 10 (some (R.d (.int k))))[4]? = _ := set_old (set_old h4)
    have g8 : ((ρ.set 9 (some (R.d (.int j)))).set 10 (some (R.d (.int k))))[8]? = _ := set_old (set_old h8)
    have g9 : ((ρ.set 9 (some (R.d (.int j)))).set 10 (some (R.d (.int k))))[9]? = some (some (.d (.int j))) := set_old (set_get hlen (by decide))
    have g10 : ((ρ.set 9 (some (R.d (.int j)))).set 10 (some (R.d (.int k))))[10]? = some (some (.d (.int k))) := set_get (n := 11) (by simp [hlen]) (by decide)
    have hl2 : ((ρ.set 9 (some (R.d (.int j)))).set 10 (some (R.d (.int k)))).length = 11 := by simp [hlen]
    refine forG_of (ρ0 := (ρ.set 9 (some (.d (.int j)))).set 10 (some (.d (.int k)))) (S0 := S) (ρ1 := ((ρ.set 9 (some (.d (.int j)))).set 10 (some (.d (.int k)))).set 7 (some (.d (kD ((j : Int) + 1, Q))))) (S1 := S.set h (.dih (encC L'))) (by simp) ?_ e1
    clear e1 f1 fr
    generalize (ρ.set 9 (some (R.d (.int j)))).set 10 (some (R.d (.int k))) = ρ1 at *
    unfold b_pyramid_in_2
    refine seq_of (ρ1 := ρ1.set 7 (some (.d (kD ((j : Int) + 1, Q))))) (S1 := S) (by simp [g4, g10, hd, hz]) ?_
    have k3 : (ρ1.set 7 (some (R.d (kD ((j : Int) + 1, Q)))))[3]? = _ := set_old g3
    have k8 : (ρ1.set 7 (some (R.d (kD ((j : Int) + 1, Q)))))[8]? = _ := set_old g8
    have k9 : (ρ1.set 7 (some (R.d (kD ((j : Int) + 1, Q)))))[9]? = _ := set_old g9
    have k10 : (ρ1.set 7 (some (R.d (kD ((j : Int) + 1, Q)))))[10]? = _ := set_old g10
    have k7 : (ρ1.set 7 (some (R.d (kD ((j : Int) + 1, Q)))))[7]? = some (some (.d (kD ((j : Int) + 1, Q)))) := set_get hl2 (by decide)
    simp only [optC_some, Option.map_some] at hj lg
    generalize kD ((j : Int) + 1, Q) = KD at *
    generalize ρ1.set 7 (some (R.d KD)) = ρ2 at *
    simp only [kD] at lg
    generalize cD cb = X1 at *
    simp [k3, k8, k9, k10, k7, isDic_dih _ hh, lk, lg, getD_cell, hj, hput, hz]
/-! what stands below, put together -/
theorem up_nodup {A : List Pt} (u : Up A) : A.Nodup := List.Pairwise.imp (fun h e => by rw [e] at h; omega) u
theorem under_all {b : Int} (hb : 0 < b) {A : List Pt} (u : Up A) (j : Nat) {ks : List Int} (hs : ks.Pairwise (· < ·)) (hk : ∀ q, q ∈ ks ↔ blk b A j q ≠ []) (q : Int) : under b A j ks q = blk b A (j + 1) q := by
  have hw := wd_pos hb j
  have hup : Up (under b A j ks q) := by
    unfold under Up
    rw [List.pairwise_flatten]
    refine ⟨fun l hl => ?_, ?_⟩
    · obtain ⟨k, _, rfl⟩ := List.mem_map.mp hl
      exact u.rng _ _
    · rw [List.pairwise_map]
      refine (List.Pairwise.sublist List.filter_sublist hs).imp fun {k k'} hlt p hp p' hp' => ?_
      rw [blk_eq hb] at hp hp'
      have e1 := of_decide_eq_true (List.mem_filter.mp hp).2
      have e2 := of_decide_eq_true (List.mem_filter.mp hp').2
      rcases (show p.1 < p'.1 ∨ p'.1 ≤ p.1 by omega) with h | h
      · exact h
      · have := Int.ediv_le_ediv hw h
        omega
  have hub : Up (blk b A (j + 1) q) := u.rng _ _
  refine up_eq hup hub ?_
  rw [List.perm_ext_iff_of_nodup (up_nodup hup) (up_nodup hub)]
  intro p
  unfold under
  have hd := div_up hb p.1 j
  constructor
  · intro h
    obtain ⟨l, h1, h2⟩ := List.mem_flatten.mp h
    obtain ⟨k, h3, rfl⟩ := List.mem_map.mp h1
    have h4 := of_decide_eq_true (List.mem_filter.mp h3).2
    rw [blk_eq hb] at h2
    obtain ⟨h5, h6⟩ := List.mem_filter.mp h2
    have h7 := of_decide_eq_true h6
    show p ∈ blk b A (j + 1) q
    rw [blk_eq hb]
    refine List.mem_filter.mpr ⟨h5, decide_eq_true ?_⟩
    rw [← hd, h7, h4]
  · intro h
    have h' : p ∈ blk b A (j + 1) q := h
    rw [blk_eq hb] at h'
    obtain ⟨h5, h6⟩ := List.mem_filter.mp h'
    have h7 := of_decide_eq_true h6
    have hin : p ∈ blk b A j (p.1 / wd b j) := by
      rw [blk_eq hb]
      exact List.mem_filter.mpr ⟨h5, decide_eq_true rfl⟩
    refine List.mem_flatten.mpr ⟨blk b A j (p.1 / wd b j), List.mem_map.mpr ⟨p.1 / wd b j, List.mem_filter.mpr ⟨(hk _).mpr (fun e => by rw [e] at hin; cases hin), decide_eq_true (by rw [hd, h7])⟩, rfl⟩, hin⟩
end G94

set_option Elab.async false
set_option linter.all false
set_option maxRecDepth 100000
set_option exponentiation.threshold 10000
/-! L94t: the program's pyramid, whole; cells_of. -/
namespace G94
open PySem Pi
def mergeA (F L : List (K2 × CT)) : List (K2 × CT) := L.foldl (fun acc e => putA acc e.1 e.2) F
theorem merge_enc : ∀ (L F : List (K2 × CT)), mergeKv (encC F) (encC L) = encC (mergeA F L)
  | [], F => rfl
  | e :: L, F => by
    show mergeKv (putKv (encC F) (kD e.1) (.d (cD e.2))) (encC L) = encC (mergeA (putA F e.1 e.2) L)
    rw [put_encC, merge_enc L]
theorem getA_merge : ∀ (L F : List (K2 × CT)), (L.map (·.1)).Nodup → ∀ k, getA (mergeA F L) k = (getA L k).or (getA F k)
  | [], F, _, k => rfl
  | e :: L, F, h, k => by
    rw [List.map_cons, List.nodup_cons] at h
    show getA (mergeA (putA F e.1 e.2) L) k = _
    rw [getA_merge L _ h.2, getA_put, getA_cons]
    by_cases c : e.1 = k
    · have c2 : k = e.1 := c.symm
      have hn : getA L k = none := by
        cases q : getA L k with
        | none => rfl
        | some v => exact absurd ((mem_key L k).mpr (by rw [q]; rfl)) (by rw [c2]; exact h.1)
      rw [if_pos c, if_pos c2, hn]
      rfl
    · have c2 : ¬ k = e.1 := fun z => c z.symm
      rw [if_neg c, if_neg c2]
theorem nodup_merge : ∀ (L F : List (K2 × CT)), (F.map (·.1)).Nodup → ((mergeA F L).map (·.1)).Nodup
  | [], F, h => h
  | e :: L, F, h => nodup_merge L _ (nodup_put h _ _)
theorem len_merge : ∀ (L F : List (K2 × CT)), (mergeA F L).length ≤ F.length + L.length
  | [], F => Nat.le_refl _
  | e :: L, F => by
    have h1 := len_merge L (putA F e.1 e.2)
    have h2 := len_put F e.1 e.2
    show (mergeA (putA F e.1 e.2) L).length ≤ _
    rw [List.length_cons]
    omega
theorem optP_some {B : List Pt} : (optP B).isSome = true ↔ B ≠ [] := by cases B <;> simp [optP]
theorem univ_of {b : Int} (hb : 0 < b) {A : List Pt} (hA : ∀ p ∈ A, 0 ≤ p.1 ∧ p.1 < 400) {F : List (K2 × CT)} (h : ∀ a q, (getA F (a, q)).isSome = true → (0 ≤ a ∧ a < 51) ∧ blk b A a.toNat q ≠ []) : ∀ k ∈ F.map (·.1), k ∈ univ := fun k hk => by
  obtain ⟨a, q⟩ := k
  obtain ⟨h1, h2⟩ := h a q ((mem_key F _).mp hk)
  have hne : ∃ p, p ∈ blk b A a.toNat q := by
    cases e : blk b A a.toNat q with
    | nil => exact absurd e h2
    | cons p r => exact ⟨p, List.mem_cons_self⟩
  obtain ⟨p, hp⟩ := hne
  rw [blk_eq hb] at hp
  obtain ⟨p1, p2⟩ := List.mem_filter.mp hp
  have p3 := of_decide_eq_true p2
  obtain ⟨t0, t1⟩ := hA p p1
  have hw := wd_pos hb a.toNat
  have q0 : 0 ≤ q := by rw [← p3]; exact Int.ediv_nonneg t0 (by omega)
  have q1 : q * wd b a.toNat ≤ p.1 := by rw [← p3]; exact Int.ediv_mul_le _ (by omega)
  have hpow : (2 : Int) ^ a.toNat ≤ wd b a.toNat := by
    unfold wd
    have : (0 : Int) ≤ 2 ^ a.toNat := Int.le_of_lt (Int.pow_pos (by decide))
    have := Int.mul_le_mul_of_nonneg_right (show (1 : Int) ≤ b by omega) this
    rw [Int.one_mul] at this
    exact this
  have q2 : q * 2 ^ a.toNat ≤ q * wd b a.toNat := Int.mul_le_mul_of_nonneg_left hpow q0
  have e : ((a.toNat : Nat) : Int) = a := by omega
  have := mem_univ (l := a.toNat) (q := q) (by omega) q0 (by omega)
  rw [e] at this
  exact this
/-- the dict of all levels below l -/
structure FA (b : Int) (A : List Pt) (l : Nat) (F : List (K2 × CT)) : Prop where
  nd : (F.map (·.1)).Nodup
  at_ : ∀ a q, getA F (a, q) = if 0 ≤ a ∧ a < l then optP (blk b A a.toNat q) else none
  le : F.length ≤ A.length * l
/-- the dict of one level -/
structure GA (b : Int) (A : List Pt) (j : Nat) (G : List (K2 × CT)) : Prop where
  nd : (G.map (·.1)).Nodup
  at_ : ∀ a q, getA G (a, q) = if a = j then optP (blk b A j q) else none
  le : G.length ≤ A.length
theorem GA.keys {b : Int} {A : List Pt} {j : Nat} {G : List (K2 × CT)} (h : GA b A j G) : ∃ ks : List Int, srt (G.map (·.1)) = ks.map (fun k => ((j : Int), k)) ∧ ks.Pairwise (· < ·) ∧ (∀ q, q ∈ ks ↔ blk b A j q ≠ []) ∧ ks.length = G.length := by
  have hfst : ∀ p ∈ srt (G.map (·.1)), p.1 = j := fun p hp => by
    have hm := (srt_perm (G.map (·.1))).subset hp
    obtain ⟨a, q⟩ := p
    have := (mem_key G (a, q)).mp hm
    rw [h.at_] at this
    split at this
    · assumption
    · cases this
  have hnd : (srt (G.map (·.1))).Nodup := (srt_perm _).nodup_iff.mpr h.nd
  refine ⟨(srt (G.map (·.1))).map (·.2), ?_, ?_, fun q => ?_, by rw [List.length_map, srt_len, List.length_map]⟩
  · rw [List.map_map]
    refine ((List.map_congr_left (g := id) fun p hp => ?_).trans (List.map_id _)).symm
    exact Prod.ext (hfst p hp).symm rfl
  · have h1 := sortBy_sorted leP_tr leP_to (G.map (·.1))
    have h2 : (srt (G.map (·.1))).Pairwise fun p q => leP p q = true ∧ p ≠ q := h1.and hnd
    rw [List.pairwise_map]
    refine List.Pairwise.imp_of_mem (fun {p q} hp hq hr => ?_) h2
    obtain ⟨r1, r2⟩ := hr
    unfold leP at r1
    have r3 := of_decide_eq_true r1
    have e1 := hfst p hp
    have e2 := hfst q hq
    have : p.2 ≠ q.2 := fun e => r2 (Prod.ext (e1.trans e2.symm) e)
    omega
  · constructor
    · intro hq
      obtain ⟨p, hp, rfl⟩ := List.mem_map.mp hq
      have hm := (srt_perm (G.map (·.1))).subset hp
      have e1 := hfst p hp
      obtain ⟨a, q⟩ := p
      have := (mem_key G (a, q)).mp hm
      rw [h.at_, if_pos e1] at this
      exact optP_some.mp this
    · intro hq
      have : ((j : Int), q) ∈ G.map (·.1) := (mem_key G _).mpr (by rw [h.at_, if_pos rfl]; exact optP_some.mpr hq)
      exact List.mem_map.mpr ⟨_, (srt_perm _).symm.subset this, rfl⟩
theorem keysSort_enc (G : List (K2 × CT)) (h : G.length < 1000000) : keysSort (encC G) = some ((srt (G.map (·.1))).map ptD) := by
  unfold keysSort
  have e : (encC G).map (·.1) = (G.map (·.1)).map ptD := by unfold encC; rw [List.map_map, List.map_map]; rfl
  rw [if_pos (by unfold encC; rw [List.length_map]; exact h), e, if_pos (ok_pts (G.map (·.1)) (by rw [List.length_map]; omega)), sort_pts]
  rfl
theorem step_level {b : Int} (hb : 0 < b ∧ b ≤ 1000000000) {A : List Pt} (u : Up A) (hA : ∀ p ∈ A, 0 ≤ p.1 ∧ p.1 < 400) (hl : A.length ≤ 50) (j : Nat) (hj : j < 50) {S : Store} {ρ : Pi.Env} {f g : Nat} {F G : List (K2 × CT)} (hlen : ρ.length = 11) (h2 : ρ[2]? = some (some (.ref f))) (h3 : ρ[3]? = some (some (.ref g))) (h4 : ρ[4]? = some (some (.d (.int ((j : Int) + 1))))) (hf : S[f]? = some (.dih (encC F))) (hg : S[g]? = some (.dih (encC G))) (hF : FA b A (j + 1) F) (hG : GA b A j G) :
    ∃ ρ' S' f' g' F' G', Fr [2, 3, 7, 8, 9, 10] ρ ρ' ∧ b_pyramid_in_1 ρ S = .nx ρ' S' ∧ ρ'[2]? = some (some (.ref f')) ∧ ρ'[3]? = some (some (.ref g')) ∧ S'[f']? = some (.dih (encC F')) ∧ S'[g']? = some (.dih (encC G')) ∧ FA b A (j + 2) F' ∧ GA b A (j + 1) G' := by
  obtain ⟨ks, k1, k2, k3, k4⟩ := hG.keys
  have hfl : f < S.length := (List.getElem?_eq_some_iff.mp hf).1
  have hgl : g < S.length := (List.getElem?_eq_some_iff.mp hg).1
  have f8 : Fr [2, 3, 7, 8, 9, 10] ρ (ρ.set 8 (some (.ref S.length))) := (Fr.refl _ ρ).set 8 _
  have hl1 : (ρ.set 8 (some (R.ref S.length))).length = 11 := by simp [hlen]
  have hGq : ∀ q, getA G ((j : Int), q) = optP (blk b A j q) := fun q => by rw [hG.at_, if_pos rfl]
  obtain ⟨ρ2, L, f2, e2, q1, q2⟩ := loop_keys (b := b) (A := A) j g S.length (by omega) G hGq ks [] (S ++ [.dih (encC [])]) [] (ρ.set 8 (some (.ref S.length))) (fun k hk => (k3 k).mp hk) hl1 (set_old h3) (set_old h4) (set_get hlen (by decide)) (by rw [List.getElem?_append_left hgl]; exact hg) (by simp) (FL.nil b A j) (by have := hG.le; simp; omega)
  rw [List.nil_append] at q1
  have hset : (S ++ [Cell.dih (encC [])]).set S.length (.dih (encC L)) = S ++ [.dih (encC L)] := by simp
  rw [hset] at e2
  have hLl : L.length ≤ A.length := by have := hG.le; simp at q2; omega
  have hG' : GA b A (j + 1) L := ⟨q1.nd, fun a q => by
    rw [q1.at_]
    have e : ((j + 1 : Nat) : Int) = (j : Int) + 1 := by omega
    rw [e, under_all hb.1 u j k2 k3], hLl⟩
  have hLl2 : L.length ≤ 50 := by omega
  have hFl : F.length ≤ 50 * 51 := Nat.le_trans hF.le (Nat.mul_le_mul hl (by omega))
  have u1 := univ_of hb.1 hA (F := F) fun a q hs => by
    rw [hF.at_] at hs
    split at hs
    · rename_i ha
      exact ⟨by omega, optP_some.mp hs⟩
    · cases hs
  have u2 := univ_of hb.1 hA (F := L) fun a q hs => by
    rw [hG'.at_] at hs
    split at hs
    · rename_i ha
      subst ha
      exact ⟨by omega, by rw [Int.toNat_natCast]; exact optP_some.mp hs⟩
    · cases hs
  have hF' : FA b A (j + 2) (mergeA F L) := ⟨nodup_merge L F hF.nd, fun a q => by
    rw [getA_merge L F hG'.nd, hG'.at_, hF.at_]
    by_cases c1 : a = ((j + 1 : Nat) : Int)
    · subst c1
      have c2 : ¬ (0 ≤ ((j + 1 : Nat) : Int) ∧ ((j + 1 : Nat) : Int) < ((j + 1 : Nat) : Int)) := by omega
      have c3 : 0 ≤ ((j + 1 : Nat) : Int) ∧ ((j + 1 : Nat) : Int) < ((j + 2 : Nat) : Int) := by omega
      rw [if_pos rfl, if_neg c2, if_pos c3, Int.toNat_natCast]
      cases optP (blk b A (j + 1) q) <;> rfl
    · rw [if_neg c1]
      by_cases c2 : 0 ≤ a ∧ a < ((j + 1 : Nat) : Int)
      · have c3 : 0 ≤ a ∧ a < ((j + 2 : Nat) : Int) := by omega
        rw [if_pos c2, if_pos c3]
        rfl
      · have c3 : ¬ (0 ≤ a ∧ a < ((j + 2 : Nat) : Int)) := by omega
        rw [if_neg c2, if_neg c3]
        rfl, by
    have h1 := len_merge L F
    have h2 := hF.le
    have h3 : A.length * (j + 2) = A.length * (j + 1) + A.length := by rw [show j + 2 = (j + 1) + 1 by omega, Nat.mul_succ]
    omega⟩
  have g28 : ρ2[8]? = some (some (.ref S.length)) := by rw [f2.get 8 (by decide)]; exact set_get hlen (by decide)
  have g22 : ρ2[2]? = some (some (.ref f)) := by rw [f2.get 2 (by decide)]; exact set_old h2
  have hl2 : ρ2.length = 11 := by rw [f2.len, hl1]
  have hm := mergeH_of ρ2 (S ++ [.dih (encC L)]) (mVar 2) (mVar 8) (n := f) (m := S.length) (S1 := S ++ [.dih (encC L)]) (S2 := S ++ [.dih (encC L)]) (xs := encC F) (ys := encC L) (by simp [g22]) (by rw [List.getElem?_append_left hfl]; exact hf) (hash_ok hF.nd u1) (by simp [g28]) (by simp) ⟨.inr (hash_ok hG'.nd u2), by unfold encC; rw [List.length_map, List.length_map]; omega⟩
  rw [merge_enc] at hm
  have hks := keysSort_enc G (by have := hG.le; omega)
  rw [k1, List.map_map] at hks
  have hso := sortK_of (ρ.set 8 (some (.ref S.length))) (S ++ [.dih (encC [])]) (mVar 3) (n := g) (S1 := S ++ [.dih (encC [])]) (by simp [set_old (i := 8) (v := some (R.ref S.length)) h3]) (by rw [List.getElem?_append_left hgl]; exact hg) hks
  have ht : (S ++ [Cell.dih (encC L)] ++ [.dih (encC (mergeA F L))])[S.length + 1]? = some (.dih (encC (mergeA F L))) := by rw [List.getElem?_append_right (by simp)]; simp
  have ht2 : (S ++ [Cell.dih (encC L)] ++ [.dih (encC (mergeA F L))])[S.length]? = some (.dih (encC L)) := by simp
  have hln : (S ++ [Cell.dih (encC L)]).length = S.length + 1 := by simp
  rw [hln] at hm
  refine ⟨(ρ2.set 2 (some (.ref (S.length + 1)))).set 3 (some (.ref S.length)), S ++ [.dih (encC L)] ++ [.dih (encC (mergeA F L))], S.length + 1, S.length, mergeA F L, L, ?_, ?_, ?_, ?_, ht, ht2, hF', hG'⟩
  · exact ((f8.trans (f2.mono (by decide))).set 2 _).set 3 _
  · unfold b_pyramid_in_1
    refine seq_of (ρ1 := ρ.set 8 (some (.ref S.length))) (S1 := S ++ [.dih (encC [])]) (by simp [encC]) ?_
    refine seq_of (ρ1 := ρ2) (S1 := S ++ [.dih (encC L)]) ?_ ?_
    · refine mFor_of (ds := ks.map fun k => kD ((j : Int), k)) (S1 := S ++ [.dih (encC [])]) ?_ e2
      rw [mItS_ev, mFrz_ev, hso]
      rfl
    refine seq_of (ρ1 := ρ2.set 2 (some (.ref (S.length + 1)))) (S1 := S ++ [.dih (encC L)] ++ [.dih (encC (mergeA F L))]) ?_ ?_
    · rw [mAsg_ev, hm]
      rfl
    · have g8 : (ρ2.set 2 (some (R.ref (S.length + 1))))[8]? = _ := set_old g28
      simp [g8]
  · exact set_old (set_get hl2 (by decide))
  · exact set_get (n := 11) (by simp [hl2]) (by decide)
end G94

set_option Elab.async false
set_option linter.all false
set_option maxRecDepth 100000
set_option exponentiation.threshold 10000
/-! L94u: cells_of. -/
namespace G94
open PySem Pi
theorem loop_levels {b : Int} (hb : 0 < b ∧ b ≤ 1000000000) {A : List Pt} (u : Up A) (hA : ∀ p ∈ A, 0 ≤ p.1 ∧ p.1 < 400) (hl : A.length ≤ 50) : ∀ (d j : Nat) (S : Store) (ρ : Pi.Env) (f g : Nat) (F G : List (K2 × CT)), j + d = 50 → ρ.length = 11 → ρ[2]? = some (some (.ref f)) → ρ[3]? = some (some (.ref g)) → S[f]? = some (.dih (encC F)) → S[g]? = some (.dih (encC G)) → FA b A (j + 1) F → GA b A j G →
    ∃ ρ' S' f' F', forLoop (gN 4) b_pyramid_in_1 ((List.range' j d).map fun i : Nat => .int (1 + (i : Int))) ρ S = .nx ρ' S' ∧ ρ'[2]? = some (some (.ref f')) ∧ S'[f']? = some (.dih (encC F')) ∧ FA b A 51 F'
  | 0, j, S, ρ, f, g, F, G, hj, _, h2, _, hf, _, hF, _ => by
    have : j = 50 := by omega
    subst this
    exact ⟨ρ, S, f, F, rfl, h2, hf, hF⟩
  | d + 1, j, S, ρ, f, g, F, G, hj, hlen, h2, h3, hf, hg, hF, hG => by
    have hl1 : (ρ.set 4 (some (R.d (.int ((j : Int) + 1))))).length = 11 := by simp [hlen]
    obtain ⟨ρ1, S1, f1, g1, F1, G1, fr, e1, k2, k3, kf, kg, kF, kG⟩ := step_level hb u hA hl j (by omega) (S := S) (ρ := ρ.set 4 (some (.d (.int ((j : Int) + 1))))) hl1 (set_old h2) (set_old h3) (set_get hlen (by decide)) hf hg hF hG
    obtain ⟨ρ', S', f', F', e2, r2, r3, r4⟩ := loop_levels hb u hA hl d (j + 1) S1 ρ1 f1 g1 F1 G1 (by omega) (by rw [fr.len, hl1]) k2 k3 kf kg kF kG
    refine ⟨ρ', S', f', F', ?_, r2, r3, r4⟩
    rw [List.range'_succ, List.map_cons]
    have ej : 1 + (j : Int) = (j : Int) + 1 := by omega
    rw [ej]
    exact forN_of e1 e2
theorem w_pyramid_in {b : Int} (hb : 0 < b ∧ b ≤ 1000000000) {A : List Pt} (u : Up A) (hA : ∀ p ∈ A, 0 ≤ p.1 ∧ p.1 < 400) (hl : A.length ≤ 50) : ∃ S' f F, m_pyramid_in [.d (.tuple (A.map ptD)), .d (.int b)] [] = .ok (.ref f) S' ∧ S'[f]? = some (.dih (encC F)) ∧ FA b A 51 F := by
  obtain ⟨ρ1, F0, f1, e1, q1, q2⟩ := loop_first hb 0 A [] [.dih (encC [])] [] ([some (.d (.tuple (A.map ptD))), some (.d (.int b)), some (.ref 0), none, none, none, none, none, none, none, none] : Pi.Env) rfl rfl rfl rfl (F1.nil b) (by simp; omega)
  rw [List.nil_append] at q1
  have w0 : wd b 0 = b := by simp [wd]
  have hat : ∀ q, optP (A.filter fun p => decide (p.1 / b = q)) = optP (blk b A 0 q) := fun q => by rw [blk_eq hb.1, w0]
  have hF : FA b A (0 + 1) F0 := ⟨q1.nd, fun a q => by
    rw [q1.at_, hat]
    by_cases c : a = 0
    · subst c
      rw [if_pos rfl, if_pos ⟨by omega, by omega⟩]
      rfl
    · rw [if_neg c, if_neg (by omega)], by simpa using q2⟩
  have hG : GA b A 0 F0 := ⟨q1.nd, fun a q => by
    rw [q1.at_, hat]
    rfl, by simpa using q2⟩
  have g12 : ρ1[2]? = some (some (.ref 0)) := f1.get 2 (by decide)
  have hl1 : ρ1.length = 11 := f1.len
  obtain ⟨ρ', S', f', F', e2, r2, r3, r4⟩ := loop_levels hb u hA hl 50 0 [.dih (encC F0)] (ρ1.set 3 (some (.ref 0))) 0 0 F0 F0 rfl (by simp [hl1]) (set_old g12) (set_get hl1 (by decide)) rfl rfl hF hG
  refine ⟨S', f', F', ?_, r3, r4⟩
  have hr : range2 [.int 1, .int 51] = some ((List.range' 0 50).map fun i : Nat => .int (1 + (i : Int))) := by rw [range2_nat (by decide) (by decide)]; rfl
  rw [m_pyramid_in_eq, fnR_ev]
  have run : (mSeq (mAsg (gN 2) mDicH0) (mSeq f_pyramid_in_3 (mSeq (mAsg (gN 3) (mVar 2)) (mSeq f_pyramid_in_1 (mRet (mVar 2)))))) (startR 11 [.d (.tuple (A.map ptD)), .d (.int b)]) [] = .rt (.ref f') S' := by
    refine seq_of (ρ1 := [some (.d (.tuple (A.map ptD))), some (.d (.int b)), some (.ref 0), none, none, none, none, none, none, none, none]) (S1 := [.dih (encC [])]) (by simp [startR, encC]) ?_
    refine seq_of (ρ1 := ρ1) (S1 := [.dih (encC F0)]) (mFor_of (ds := A.map ptD) (S1 := [.dih (encC [])]) (by simp) e1) ?_
    refine seq_of (ρ1 := ρ1.set 3 (some (.ref 0))) (S1 := [.dih (encC F0)]) (by simp [g12]) ?_
    refine seq_of (ρ1 := ρ') (S1 := S') (mFor_of (ds := (List.range' 0 50).map fun i : Nat => .int (1 + (i : Int))) (S1 := [.dih (encC F0)]) ?_ e2) ?_
    · simp only [mItA_ev, mCons_ev, mD_ev, mNil_ev, Res.bind_ok, allD_cons, allD_nil, Option.map_some, optB_some, hr]
    · simp [r2]
  rw [run]
  rfl
theorem FA.ci {b : Int} {A : List Pt} {F : List (K2 × CT)} (h : FA b A 51 F) : CI b A F := ⟨h.nd, fun l q => by
  rw [h.at_]
  by_cases c : 0 ≤ l ∧ l < 51
  · rw [if_pos (show 0 ≤ l ∧ l < ((51 : Nat) : Int) from c), if_pos c]
    split <;> rfl
  · rw [if_neg (show ¬ (0 ≤ l ∧ l < ((51 : Nat) : Int)) from c), if_neg c]⟩
theorem p_cells_of {b : Int} (hb : 0 < b ∧ b ≤ 1000000000) {A : List Pt} (u : Up A) (hA : ∀ p ∈ A, 0 ≤ p.1 ∧ p.1 < 400) (hv : ∀ p ∈ A, -1000000000000 ≤ p.2 ∧ p.2 ≤ 1000000000000) (hl : A.length ≤ 50) (S : Store) : runP m_cells_of [.tuple (A.map ptD), .int b] S = .ok (.d (.tuple ((srtC (pyrL b A 51)).map pairC))) S := by
  obtain ⟨S', f, F, e1, e2, hF⟩ := w_pyramid_in hb u hA hl
  refine runP_ok (S' := S') S ?_
  have hn := p_need_points u (fun p hp => ⟨⟨(hA p hp).1, by have := (hA p hp).2; omega⟩, hv p hp⟩) (by omega) []
  have hb' := p_need_base (b := b) ⟨by omega, hb.2⟩ []
  have hle : F.length < 1000000 := by
    have := hF.le
    have : A.length * 51 ≤ 50 * 51 := Nat.mul_le_mul hl (Nat.le_refl _)
    omega
  have hit := itemsH_enc F hle
  rw [(hF.ci).same (pyr_CI hb.1 A)] at hit
  unfold m_cells_of
  rw [fnR_ev]
  generalize (srtC (pyrL b A 51)).map pairC = L at *
  generalize A.map ptD = AD at *
  have hso := sortH_of (startR 2 [.d (.tuple AD), .d (.int b)]) [] (mCallS m_pyramid_in (mCons (mVar 0) (mCons (mVar 1) mNil))) (n := f) (S1 := S') (by simp [startR, e1]) e2 hit
  have run : (mSeq (mExpr (mCallP m_need_points (mCons (mVar 0) mNil))) (mSeq (mExpr (mCallP m_need_base (mCons (mVar 1) mNil))) (mRet (mCB tupleD (mCons (mFrz (mSortItemsH (mCallS m_pyramid_in (mCons (mVar 0) (mCons (mVar 1) mNil))))) mNil))))) (startR 2 [.d (.tuple AD), .d (.int b)]) [] = .rt (.d (.tuple L)) S' := by
    refine seq_of (ρ1 := startR 2 [.d (.tuple AD), .d (.int b)]) (S1 := []) (by simp [startR, hn]) ?_
    refine seq_of (ρ1 := startR 2 [.d (.tuple AD), .d (.int b)]) (S1 := []) (by simp [startR, hb']) ?_
    rw [mRet_ev, mCB_ev, mCons_ev, mFrz_ev, hso]
    simp
  show outF _ = _
  rw [show (startR 2 (List.map R.d [PyData.tuple AD, PyData.int b])) = startR 2 [.d (.tuple AD), .d (.int b)] from rfl, run]
  rfl
end G94

set_option Elab.async false
set_option linter.all false
set_option maxRecDepth 100000
set_option exponentiation.threshold 10000
/-! L94v: the law's own dict; a step. -/
namespace G94
open PySem Pi
theorem s_roll {S : Store} {ρ : Pi.Env} {arg : EM} {a b m : Int} (h1 : ρ[1]? = some (some (.ref 0))) (hS : S[0]? = some (cup a b)) (ha : arg ρ S = .ok (.d (.int m)) S) (h0 : 0 < m) (hm : m < 2 ^ 32) :
    ∃ r a' b', 0 ≤ r ∧ r < m ∧ mCall1 m__law_roll (mCons (mVar 1) (mCons arg mNil)) ρ S = .ok (.d (.int r)) (S.set 0 (cup a' b')) := by
  obtain ⟨r, a', b', h2, h3, h4⟩ := w_roll a b m h0 hm
  refine ⟨r, a', b', h2, h3, ?_⟩
  have e := run1_ok (F := m__law_roll) (i := 0) (ds := [.int m]) (S := S) (T := []) hS h4
  simp [h1, ha, e]
section
variable {S : Store} {n p c : Nat} {b m : Int} {P : List Pt} {C : List (K2 × CT)}
theorem VS.cupS (h : VS S n p c b P C m) {x y : Int} (h0 : S[0]? = some (cup x y)) (z : Cell) : VS (S.set 0 z) n p c b P C m := by
  have n0 : 0 ≠ n := fun e => by have := h.obj; rw [← e, h0] at this; cases this
  have p0 : 0 ≠ p := fun e => by have := h.pts; rw [← e, h0] at this; cases this
  have c0 : 0 ≠ c := fun e => by have := h.cel; rw [← e, h0] at this; cases this
  exact ⟨by rw [List.getElem?_set_ne n0]; exact h.obj, by rw [List.getElem?_set_ne p0]; exact h.pts, by rw [List.getElem?_set_ne c0]; exact h.cel⟩
theorem VS.app (h : VS S n p c b P C m) (T : Store) : VS (S ++ T) n p c b P C m :=
  ⟨by rw [List.getElem?_append_left h.lt.1]; exact h.obj, by rw [List.getElem?_append_left h.lt.2.1]; exact h.pts, by rw [List.getElem?_append_left h.lt.2.2]; exact h.cel⟩
end
/-- the law's state -/
structure LW (S : Store) (ρ : Pi.Env) (n p c d : Nat) (b tm : Int) (P : List Pt) (C : List (K2 × CT)) (m : Int) : Prop where
  len : ρ.length = 28
  cup : ρ[1]? = some (some (.ref 0))
  vw : ρ[3]? = some (some (.ref n))
  bs : ρ[8]? = some (some (.d (.int b)))
  tms : ρ[9]? = some (some (.d (.int tm)))
  fd : ρ[10]? = some (some (.ref d))
  wk : ρ[11]? = some (some (.d (.int m)))
  st : ∃ x y, S[0]? = some (G94.cup x y)
  vs : VS S n p c b P C m
  dc : S[d]? = some (.dic (encI P))
  dn : d ≠ p
  ci : CI b (srt P) C
  nd : (P.map (·.1)).Nodup
  bd : ∀ x ∈ P, (0 ≤ x.1 ∧ x.1 < tm) ∧ (-20 ≤ x.2 ∧ x.2 ≤ 20)
  bb : 1 ≤ b ∧ b ≤ 100
  tt : 0 < tm ∧ tm ≤ 400
section
variable {S : Store} {ρ : Pi.Env} {n p c d : Nat} {b tm m : Int} {P : List Pt} {C : List (K2 × CT)}
theorem LW.ps (h : LW S ρ n p c d b tm P C m) : Ps P := ⟨h.nd, fun x hx => by have := h.bd x hx; have := h.tt; exact ⟨⟨by omega, by omega⟩, by omega, by omega⟩⟩
theorem LW.hb (h : LW S ρ n p c d b tm P C m) : 0 < b ∧ b ≤ 1000000000 := by have := h.bb; omega
theorem LW.cupS (h : LW S ρ n p c d b tm P C m) (x y : Int) : LW (S.set 0 (G94.cup x y)) ρ n p c d b tm P C m := by
  obtain ⟨a0, b0, h0⟩ := h.st
  have d0 : 0 ≠ d := fun e => by have := h.dc; rw [← e, h0] at this; cases this
  exact { h with
    st := ⟨x, y, List.getElem?_set_self (List.getElem?_eq_some_iff.mp h0).1⟩
    vs := h.vs.cupS h0 _
    dc := by rw [List.getElem?_set_ne d0]; exact h.dc }
theorem LW.fr {is : List Nat} {ρ' : Pi.Env} (h : LW S ρ n p c d b tm P C m) (f : Fr is ρ ρ') (hi : ∀ i ∈ is, i ≠ 1 ∧ i ≠ 3 ∧ i ≠ 8 ∧ i ≠ 9 ∧ i ≠ 10 ∧ i ≠ 11) : LW S ρ' n p c d b tm P C m :=
  { h with
    len := by rw [f.len]; exact h.len
    cup := by rw [f.get 1 (fun z => (hi 1 z).1 rfl)]; exact h.cup
    vw := by rw [f.get 3 (fun z => (hi 3 z).2.1 rfl)]; exact h.vw
    bs := by rw [f.get 8 (fun z => (hi 8 z).2.2.1 rfl)]; exact h.bs
    tms := by rw [f.get 9 (fun z => (hi 9 z).2.2.2.1 rfl)]; exact h.tms
    fd := by rw [f.get 10 (fun z => (hi 10 z).2.2.2.2.1 rfl)]; exact h.fd
    wk := by rw [f.get 11 (fun z => (hi 11 z).2.2.2.2.2 rfl)]; exact h.wk }
theorem LW.set (h : LW S ρ n p c d b tm P C m) (i : Nat) (v : Option R) (hi : i ≠ 1 ∧ i ≠ 3 ∧ i ≠ 8 ∧ i ≠ 9 ∧ i ≠ 10 ∧ i ≠ 11 := by decide) : LW S (ρ.set i v) n p c d b tm P C m :=
  h.fr (is := [i]) ((Fr.refl [i] ρ).set i v (by simp)) fun j hj => List.mem_singleton.mp hj ▸ hi
end
/-! dicts of ints -/
theorem pairsOf_pts : ∀ P : List Pt, pairsOf (P.map ptD) = some (encI P)
  | [] => rfl
  | p :: P => by
    show (pairsOf (P.map ptD)).map ((PyData.int p.1, R.d (.int p.2)) :: ·) = _
    rw [pairsOf_pts P]
    rfl
def putAll (Q P : List Pt) : List Pt := P.foldl (fun acc e => putA acc e.1 e.2) Q
theorem merge_encI : ∀ (P Q : List Pt), mergeKv (encI Q) (encI P) = encI (putAll Q P)
  | [], Q => rfl
  | p :: P, Q => by
    show mergeKv (putKv (encI Q) (.int p.1) (.d (.int p.2))) (encI P) = encI (putAll (putA Q p.1 p.2) P)
    rw [put_enc, putI_eq, merge_encI P]
theorem put_new {Q : List Pt} {k v : Int} (h : k ∉ Q.map (·.1)) : putA Q k v = Q ++ [(k, v)] := by
  unfold putA
  rw [any_getA]
  have : ¬ (getA Q k).isSome = true := fun e => h ((mem_key Q k).mpr e)
  rw [if_neg this]
theorem putAll_app : ∀ (P Q : List Pt), ((Q ++ P).map (·.1)).Nodup → putAll Q P = Q ++ P
  | [], Q, _ => by simp [putAll]
  | p :: P, Q, h => by
    have hn : p.1 ∉ Q.map (·.1) := by
      rw [List.map_append, List.map_cons, List.nodup_append] at h
      exact fun hm => h.2.2 _ hm _ List.mem_cons_self rfl
    show putAll (putA Q p.1 p.2) P = _
    rw [put_new hn]
    have e : Q ++ [(p.1, p.2)] ++ P = Q ++ p :: P := by simp
    rw [putAll_app P _ (by rw [e]; exact h), e]
theorem dictK_pts (P : List Pt) : dictK (.list (P.map ptD)) = some (encI (putAll [] P)) := by
  show (match pairsOf (P.map ptD) with | some kvs => if (kvs.all fun p => (keyOf p.1).isSome) = true then some (mergeKv [] kvs) else none | none => none) = _
  rw [pairsOf_pts]
  have h : ((encI P).all fun p => (keyOf p.1).isSome) = true := by
    rw [List.all_eq_true]
    intro x hx
    obtain ⟨q, _, rfl⟩ := List.mem_map.mp hx
    rfl
  simp only [h, if_true]
  have := merge_encI P []
  exact congrArg some this
theorem putAll_self {P : List Pt} (h : (P.map (·.1)).Nodup) : putAll [] P = P := by
  have := putAll_app P [] (by simpa using h)
  simpa using this
theorem putAll_put {P : List Pt} (h : (P.map (·.1)).Nodup) (t v : Int) : putAll [] (P ++ [(t, v)]) = putA P t v := by
  unfold putAll
  rw [List.foldl_append]
  have := putAll_self h
  unfold putAll at this
  rw [this]
  rfl
/-! the law's dict walked -/
theorem lc_found {S : Store} {dd : Nat} {P : List Pt} (hS : S[dd]? = some (.dic (encI P))) (hl : P.length ≤ 100000) {ρ : Pi.Env} {i : Nat} {cond : TM} {el : EM} {f : Pt → Bool} {g : Pt → D} (h0 : ρ[10]? = some (some (.ref dd)))
    (hc : ∀ x ∈ P, cond ((wipeR ρ [i]).set i (some (.d (.int x.1)))) (lk S dd P) = .ok (f x) (lk S dd P)) (he : ∀ x ∈ P, f x = true → el ((wipeR ρ [i]).set i (some (.d (.int x.1)))) (lk S dd P) = .ok (.d (g x)) (lk S dd P)) :
    mLockL (mVar 10) (mLc (mItDK false (mVar 10)) [i] (gN i) cond el) ρ S = .ok ((P.filter f).map g) S := by
  have hdl : dd < S.length := (List.getElem?_eq_some_iff.mp hS).1
  have hlk : (lk S dd P)[dd]? = some (.lck (encI P)) := List.getElem?_set_self hdl
  refine lock_of (n := dd) (S0 := S) (S1 := lk S dd P) (S2 := lk S dd P) _ _ _ ?_ ?_ ?_ ?_
  · simp [h0]
  · unfold lockS; rw [hS]
  · have e1 : mItDK false (mVar 10) ρ (lk S dd P) = .ok (P.map fun x => .int x.1) (lk S dd P) := itDK_of _ _ _ (n := dd) (S1 := lk S dd P) (kvs := encI P) (by simp [h0]) hlk (by show some ((encI P).map (·.1)) = _; unfold encI; rw [List.map_map]; rfl)
    have e2 : lcLoop (wipeR ρ [i]) (gN i) cond el (P.map fun x => .int x.1) (lk S dd P) = .ok ((P.filter f).map g) (lk S dd P) := lc_of (fun x : Pt => PyData.int x.1) fun x hx => ⟨_, gN_ev .., hc x hx, he x hx⟩
    have e3 : ((P.filter f).map g).length ≤ sizeLine := by rw [List.length_map, hz]; have := List.length_filter_le f P; omega
    rw [mLc_ev, e1, Res.bind_ok, e2]
    simp only [noEx, Res.bind_ok, if_pos e3]
  · unfold unlockS
    rw [hlk]
    simp only
    rw [set_back hS]
end G94

set_option Elab.async false
set_option linter.all false
set_option maxRecDepth 100000
set_option exponentiation.threshold 10000
/-! L94w: a step of the law. -/
namespace G94
open PySem Pi
section
variable {S : Store} {ρ : Pi.Env} {n p c d : Nat} {b tm m : Int} {P : List Pt} {C : List (K2 × CT)}
theorem LW.r (h : LW S ρ n p c d b tm P C m) {arg : EM} {k : Int} (ha : arg ρ S = .ok (.d (.int k)) S) (h0 : 0 < k) (hm : k < 2 ^ 32) : ∃ r x y, 0 ≤ r ∧ r < k ∧ mCall1 m__law_roll (mCons (mVar 1) (mCons arg mNil)) ρ S = .ok (.d (.int r)) (S.set 0 (G94.cup x y)) := by
  obtain ⟨a0, b0, h0'⟩ := h.st
  exact s_roll h.cup h0' ha h0 hm
/-- the found dict is told anew -/
theorem LW.found (h : LW S ρ n p c d b tm P C m) {S' : Store} {P' : List Pt} {C' : List (K2 × CT)} {m' : Int} (hv : VS S' n p c b P' C' m') (hst : ∃ x y, S'[0]? = some (G94.cup x y)) (hci : CI b (srt P') C') (hnd : (P'.map (·.1)).Nodup) (hbd : ∀ x ∈ P', (0 ≤ x.1 ∧ x.1 < tm) ∧ (-20 ≤ x.2 ∧ x.2 ≤ 20)) :
    LW (S' ++ [.dic (encI P')]) ((ρ.set 10 (some (.ref S'.length))).set 11 (some (.d (.int m')))) n p c S'.length b tm P' C' m' where
  len := by simp [h.len]
  cup := set_old (set_old h.cup)
  vw := set_old (set_old h.vw)
  bs := set_old (set_old h.bs)
  tms := set_old (set_old h.tms)
  fd := set_old (set_get h.len (by decide))
  wk := set_get (n := 28) (by simp [h.len]) (by decide)
  st := by
    obtain ⟨x, y, e⟩ := hst
    exact ⟨x, y, by rw [List.getElem?_append_left (List.getElem?_eq_some_iff.mp e).1]; exact e⟩
  vs := hv.app _
  dc := by simp
  dn := Nat.ne_of_gt hv.lt.2.1
  ci := hci
  nd := hnd
  bd := hbd
  bb := h.bb
  tt := h.tt
theorem step_write (h : LW S ρ n p c d b tm P C m) (hl : P.length ≤ 800) : ∃ ρ' S' d' P' C' m',
    mSeq (mPar [23, 24] (mCons (mCall1 m__law_roll (mCons (mVar 1) (mCons (mVar 9) mNil))) (mCons (mOp2 subD (mCall1 m__law_roll (mCons (mVar 1) (mCons (mD (.int 41)) mNil))) (mD (.int 20))) mNil)))
    (mSeq (mExpr (mMeth "View" (Str.ofString "write") m_View_write (mVar 3) (mCons (mVar 23) (mCons (mVar 24) mNil))))
    (mAsgR [(gN 10), (gN 11)] (mCons (mDictK (mFrz (mOp2L (onlyL addD) (mFrz (mListItems (mVar 10))) (mFrz (mDisp (mCons (mTup (mCons (mVar 23) (mCons (mVar 24) mNil))) mNil)))))) (mCons (mOp2 addD (mVar 11) (mD (.int 51))) mNil)))) ρ S = .nx ρ' S' ∧ LW S' ρ' n p c d' b tm P' C' m' ∧ P'.length ≤ P.length + 1 := by
  have htt := h.tt
  obtain ⟨t, x1, y1, t0, t1, e1⟩ := h.r (arg := mVar 9) (k := tm) (by simp [h.tms]) htt.1 (by omega)
  have h1 := h.cupS x1 y1
  obtain ⟨v, x2, y2, v0, v1, e2⟩ := h1.r (arg := mD (.int 41)) (k := 41) (by simp) (by decide) (by decide)
  have h2 := h1.cupS x2 y2
  generalize hS1 : S.set 0 (G94.cup x1 y1) = S1 at *
  generalize hS2 : S1.set 0 (G94.cup x2 y2) = S2 at *
  have fr : Fr [23, 24] ρ ((ρ.set 23 (some (.d (.int t)))).set 24 (some (.d (.int (v - 20))))) := ((Fr.refl _ ρ).set 23 _).set 24 _
  have h3 := h2.fr fr (by decide)
  obtain ⟨S3, C3, e3, v3, M3, k3⟩ := w_write h2.hb h2.ps (by omega) (t := t) (v := v - 20) ⟨by omega, by omega⟩ ⟨by omega, by omega⟩ h2.vs h2.ci
  have hbd : ∀ x ∈ putA P t (v - 20), (0 ≤ x.1 ∧ x.1 < tm) ∧ (-20 ≤ x.2 ∧ x.2 ≤ 20) := fun x hx => by
    rcases mem_put hx with hx | rfl
    · exact h.bd x hx
    · exact ⟨⟨t0, t1⟩, by show -20 ≤ v - 20; omega, by show v - 20 ≤ 20; omega⟩
  obtain ⟨cx, cy, hc0⟩ := h2.st
  have hn0 : ∀ i, i = n ∨ i = p ∨ i = c → i ≠ 0 := fun i hi e => by
    subst e
    rcases hi with hi | hi | hi
    · have := h2.vs.obj; rw [← hi, hc0] at this; cases this
    · have := h2.vs.pts; rw [← hi, hc0] at this; cases this
    · have := h2.vs.cel; rw [← hi, hc0] at this; cases this
  have hs30 : S3[0]? = some (G94.cup cx cy) := by
    rw [k3.get 0 (by simp only [List.mem_cons, List.not_mem_nil, or_false, not_or]; exact ⟨fun e => hn0 n (.inl rfl) e.symm, fun e => hn0 p (.inr (.inl rfl)) e.symm, fun e => hn0 c (.inr (.inr rfl)) e.symm⟩)]
    exact hc0
  have hdn : d ≠ n := fun e => by have := h2.dc; rw [e, h2.vs.obj] at this; cases this
  have hdc : d ≠ c := fun e => by have := h2.dc; rw [e, h2.vs.cel] at this; cases this
  have hs3d : S3[d]? = some (.dic (encI P)) := by
    rw [k3.get d (by simp only [List.mem_cons, List.not_mem_nil, or_false, not_or]; exact ⟨hdn, h2.dn, hdc⟩)]
    exact h2.dc
  have hfin := h3.found v3 ⟨cx, cy, hs30⟩ M3 (nodup_put h.nd _ _) hbd
  have hlp := len_put P t (v - 20)
  refine ⟨_, _, S3.length, putA P t (v - 20), C3, m + 51, ?_, hfin, hlp⟩
  generalize hρ1 : (ρ.set 23 (some (R.d (.int t)))).set 24 (some (R.d (.int (v - 20)))) = ρ1 at *
  have g23 : ρ1[23]? = some (some (.d (.int t))) := by rw [← hρ1]; exact set_old (set_get h.len (by decide))
  have g24 : ρ1[24]? = some (some (.d (.int (v - 20)))) := by rw [← hρ1]; exact set_get (n := 28) (by simp [h.len]) (by decide)
  refine seq_of (ρ1 := ρ1) (S1 := S2) ?_ ?_
  · rw [mPar_ev]
    simp only [mCons_ev, mOp2_ev, mD_ev, mNil_ev, e1, e2, Res.bind_ok, rd_d, optB_some]
    simp [hρ1]
  refine seq_of (ρ1 := ρ1) (S1 := S3) ?_ ?_
  · simp [h3.vw, g23, g24, h2.vs.kWrite, e3]
  · have li := listI_of ρ1 S3 (mVar 10) (n := d) (S1 := S3) (by simp [h3.fd]) hs3d (by unfold encI; rw [List.length_map]; omega) (pairs_enc P)
    have ad : onlyL addD (.list (P.map ptD)) (.list [ptD (t, v - 20)]) = some ((P ++ [(t, v - 20)]).map ptD) := onlyL_of (by rw [addD_lst (by rw [hz]; simp; omega)]; simp)
    have dk := dictK_pts (P ++ [(t, v - 20)])
    rw [putAll_put h.nd] at dk
    have hdk := dictK_of ρ1 S3 (mFrz (mOp2L (onlyL addD) (mFrz (mListItems (mVar 10))) (mFrz (mDisp (mCons (mTup (mCons (mVar 23) (mCons (mVar 24) mNil))) mNil))))) (r := .d (.list ((P ++ [(t, v - 20)]).map ptD))) (S1 := S3) (by
      rw [mFrz_ev, mOp2L_ev, mFrz_ev, li]
      simp [g23, g24, hz, ad]) rfl dk
    rw [mAsgR_ev, mCons_ev, hdk]
    simp [h3.wk, hz]
end
end G94

set_option Elab.async false
set_option linter.all false
set_option maxRecDepth 100000
set_option exponentiation.threshold 10000
/-! L94x: a step of the law that deletes. -/
namespace G94
open PySem Pi
theorem inB_ints (x : Int) (ys : List Int) : inB (.int x) (.list (ys.map .int)) = some (decide (x ∈ ys)) := by
  unfold inB
  have h : ((ys.map PyData.int).all flatP) = true := by
    rw [List.all_eq_true]
    intro y hy
    obtain ⟨i, _, rfl⟩ := List.mem_map.mp hy
    rfl
  have h2 : flatP (.int x) = true := rfl
  simp only [h, h2, Bool.and_self, if_true]
  congr 1
  rw [List.any_map, Bool.eq_iff_iff, List.any_eq_true, decide_eq_true_iff]
  constructor
  · rintro ⟨y, hy, e⟩
    have e2 : decide (y = x) = true := by rw [← eqv_int]; exact e
    exact of_decide_eq_true e2 ▸ hy
  · intro hx
    exact ⟨x, hx, by show PyData.eqv (.int x) (.int x) = true; rw [eqv_int]; simp⟩
section
variable {S : Store} {ρ : Pi.Env} {n p c d : Nat} {b tm m : Int} {P : List Pt} {C : List (K2 × CT)}
theorem LW.keep (h : LW S ρ n p c d b tm P C m) {S' : Store} (k : Ks [n, p, c] S S') : (∃ x y, S'[0]? = some (G94.cup x y)) ∧ S'[d]? = some (.dic (encI P)) := by
  obtain ⟨cx, cy, hc0⟩ := h.st
  have hn0 : ∀ i, i = n ∨ i = p ∨ i = c → i ≠ 0 := fun i hi e => by
    subst e
    rcases hi with hi | hi | hi
    · have := h.vs.obj; rw [← hi, hc0] at this; cases this
    · have := h.vs.pts; rw [← hi, hc0] at this; cases this
    · have := h.vs.cel; rw [← hi, hc0] at this; cases this
  have hdn : d ≠ n := fun e => by have := h.dc; rw [e, h.vs.obj] at this; cases this
  have hdc : d ≠ c := fun e => by have := h.dc; rw [e, h.vs.cel] at this; cases this
  refine ⟨⟨cx, cy, ?_⟩, ?_⟩
  · rw [k.get 0 (by simp only [List.mem_cons, List.not_mem_nil, or_false, not_or]; exact ⟨fun e => hn0 n (.inl rfl) e.symm, fun e => hn0 p (.inr (.inl rfl)) e.symm, fun e => hn0 c (.inr (.inr rfl)) e.symm⟩)]
    exact hc0
  · rw [k.get d (by simp only [List.mem_cons, List.not_mem_nil, or_false, not_or]; exact ⟨hdn, h.dn, hdc⟩)]
    exact h.dc
theorem step_del (h : LW S ρ n p c d b tm P C m) (hl : P.length ≤ 800) : ∃ ρ' S' d' P' C' m',
    mSeq (mAsg (gN 12) (mCall1 m__law_roll (mCons (mVar 1) (mCons (mVar 9) mNil))))
    (mSeq (mAsg (gN 13) (mOp2 addD (mVar 12) (mCall1 m__law_roll (mCons (mVar 1) (mCons (mD (.int 20)) mNil)))))
    (mSeq (mAsg (gN 20) (mFrz (mLockL (mVar 10) (mLc (mItDK false (mVar 10)) [23] (gN 23) (mB (mChain leD leD (mVar 12) (mVar 23) (mVar 13))) (mVar 23)))))
    (mSeq i_law_8
    (mAsgR [(gN 10), (gN 11)] (mCons (mDictK (mFrz (mLockL (mVar 10) (mLc (mItDK false (mVar 10)) [23] (gN 23) (mB (mOp2 notInD (mVar 23) (mVar 20))) (mTup (mCons (mVar 23) (mCons (mDGet (mVar 10) (mVar 23)) mNil))))))) (mCons (mOp2 addD (mVar 11) (mOp2 mulD (mD (.int 51)) (mCB lenD (mCons (mVar 20) mNil)))) mNil)))))) ρ S = .nx ρ' S' ∧ LW S' ρ' n p c d' b tm P' C' m' ∧ P'.length ≤ P.length + 1 := by
  have htt := h.tt
  obtain ⟨lo, x1, y1, t0, t1, e1⟩ := h.r (arg := mVar 9) (k := tm) (by simp [h.tms]) htt.1 (by omega)
  have h1 := (h.cupS x1 y1).set 12 (some (.d (.int lo)))
  obtain ⟨k, x2, y2, v0, v1, e2⟩ := h1.r (arg := mD (.int 20)) (k := 20) (by simp) (by decide) (by decide)
  have h2 := (h1.cupS x2 y2).set 13 (some (.d (.int (lo + k))))
  have g12 : (ρ.set 12 (some (R.d (.int lo))))[12]? = some (some (.d (.int lo))) := set_get h.len (by decide)
  generalize hS1 : S.set 0 (G94.cup x1 y1) = S1 at *
  generalize hρ1 : ρ.set 12 (some (R.d (.int lo))) = ρ1 at *
  generalize hS2 : S1.set 0 (G94.cup x2 y2) = S2 at *
  have g12' : (ρ1.set 13 (some (R.d (.int (lo + k)))))[12]? = some (some (.d (.int lo))) := set_old g12
  have g13 : (ρ1.set 13 (some (R.d (.int (lo + k)))))[13]? = some (some (.d (.int (lo + k)))) := set_get h1.len (by decide)
  generalize hρ2 : ρ1.set 13 (some (R.d (.int (lo + k)))) = ρ2 at *
  have hgone : mLockL (mVar 10) (mLc (mItDK false (mVar 10)) [23] (gN 23) (mB (mChain leD leD (mVar 12) (mVar 23) (mVar 13))) (mVar 23)) ρ2 S2 = .ok ((P.filter fun p => decide (lo ≤ p.1 ∧ p.1 ≤ lo + k)).map fun x => .int x.1) S2 :=
    lc_found h2.dc (by omega) h2.fd (fun x hx => by
      have a1 : ((wipeR ρ2 [23]).set 23 (some (R.d (.int x.1))))[12]? = some (some (.d (.int lo))) := set_old (by show (ρ2.set 23 none)[12]? = _; exact set_old g12')
      have a2 : ((wipeR ρ2 [23]).set 23 (some (R.d (.int x.1))))[13]? = some (some (.d (.int (lo + k)))) := set_old (by show (ρ2.set 23 none)[13]? = _; exact set_old g13)
      have a3 : ((wipeR ρ2 [23]).set 23 (some (R.d (.int x.1))))[23]? = some (some (.d (.int x.1))) := List.getElem?_set_self (by show 23 < (ρ2.set 23 none).length; rw [List.length_set, h2.len]; decide)
      generalize (wipeR ρ2 [23]).set 23 (some (R.d (.int x.1))) = ρ3 at a1 a2 a3
      by_cases c1 : lo ≤ x.1 <;> by_cases c2 : x.1 ≤ lo + k <;> simp [a1, a2, a3, c1, c2]) fun x hx _ => by
      have a3 : ((wipeR ρ2 [23]).set 23 (some (R.d (.int x.1))))[23]? = some (some (.d (.int x.1))) := List.getElem?_set_self (by show 23 < (ρ2.set 23 none).length; rw [List.length_set, h2.len]; decide)
      generalize (wipeR ρ2 [23]).set 23 (some (R.d (.int x.1))) = ρ3 at a3
      simp [a3]
  obtain ⟨S3, C3, e3, v3, M3, k3⟩ := w_delete h2.hb h2.ps (by omega) (lo := lo) (hi := lo + k) ⟨by omega, by omega, by omega⟩ h2.vs h2.ci
  generalize hG : (P.filter fun p => decide (lo ≤ p.1 ∧ p.1 ≤ lo + k)) = G at *
  generalize hQ : (P.filter fun p => !decide (lo ≤ p.1 ∧ p.1 ≤ lo + k)) = Q at *
  have hQl : Q.length ≤ P.length := by rw [← hQ]; exact List.length_filter_le _ _
  have hGl : G.length ≤ P.length := by rw [← hG]; exact List.length_filter_le _ _
  have hQnd : (Q.map (·.1)).Nodup := by rw [← hQ]; exact h.nd.sublist (List.filter_sublist.map _)
  have hQbd : ∀ x ∈ Q, (0 ≤ x.1 ∧ x.1 < tm) ∧ (-20 ≤ x.2 ∧ x.2 ≤ 20) := fun x hx => by
    rw [← hQ] at hx
    exact h.bd x (List.mem_filter.mp hx).1
  have h3 := h2.set 20 (some (.d (.list (G.map fun x => .int x.1))))
  obtain ⟨hst, hs3d⟩ := h2.keep k3
  have hfin := h3.found v3 hst M3 hQnd hQbd
  have g20 : (ρ2.set 20 (some (R.d (.list (G.map fun x => .int x.1)))))[20]? = some (some (.d (.list (G.map fun x => .int x.1)))) := set_get h2.len (by decide)
  have g12'' : (ρ2.set 20 (some (R.d (.list (G.map fun x => .int x.1)))))[12]? = some (some (.d (.int lo))) := set_old g12'
  have g13'' : (ρ2.set 20 (some (R.d (.list (G.map fun x => .int x.1)))))[13]? = some (some (.d (.int (lo + k)))) := set_old g13
  generalize hρ3 : ρ2.set 20 (some (R.d (.list (G.map fun x => .int x.1)))) = ρ3 at *
  refine ⟨_, _, S3.length, Q, C3, _, ?_, hfin, by omega⟩
  refine seq_of (ρ1 := ρ1) (S1 := S1) ?_ ?_
  · rw [mAsg_ev, e1]
    simp [hρ1]
  refine seq_of (ρ1 := ρ2) (S1 := S2) ?_ ?_
  · rw [mAsg_ev, mOp2_ev, mVar_ev, g12, getV_some, Res.bind_ok, e2]
    simp [addD, hρ2]
  refine seq_of (ρ1 := ρ3) (S1 := S2) ?_ ?_
  · rw [mAsg_ev, mFrz_ev, hgone]
    simp [hρ3]
  refine seq_of (ρ1 := ρ3) (S1 := S3) ?_ ?_
  · unfold i_law_8
    simp [h3.vw, g12'', g13'', g20, h2.vs.kDelete, e3]
  · have lf : mLockL (mVar 10) (mLc (mItDK false (mVar 10)) [23] (gN 23) (mB (mOp2 notInD (mVar 23) (mVar 20))) (mTup (mCons (mVar 23) (mCons (mDGet (mVar 10) (mVar 23)) mNil)))) ρ3 S3 = .ok (Q.map ptD) S3 := by
      have hlk : (lk S3 d P)[d]? = some (.lck (encI P)) := List.getElem?_set_self (List.getElem?_eq_some_iff.mp hs3d).1
      have ft : (fun x : Pt => !decide (x.1 ∈ G.map (·.1))) = fun x : Pt => !decide (x.1 ∈ G.map (·.1)) := rfl
      have := lc_found (cond := mB (mOp2 notInD (mVar 23) (mVar 20))) (el := mTup (mCons (mVar 23) (mCons (mDGet (mVar 10) (mVar 23)) mNil))) hs3d (by omega) h3.fd (i := 23) (f := fun x => !decide (x.1 ∈ G.map (·.1))) (g := ptD) (fun x hx => by
        have a1 : ((wipeR ρ3 [23]).set 23 (some (R.d (.int x.1))))[20]? = some (some (.d (.list (G.map fun x => .int x.1)))) := set_old (by show (ρ3.set 23 none)[20]? = _; exact set_old g20)
        have a3 : ((wipeR ρ3 [23]).set 23 (some (R.d (.int x.1))))[23]? = some (some (.d (.int x.1))) := List.getElem?_set_self (by show 23 < (ρ3.set 23 none).length; rw [List.length_set, h3.len]; decide)
        generalize (wipeR ρ3 [23]).set 23 (some (R.d (.int x.1))) = ρ4 at a1 a3
        have q := inB_ints x.1 (G.map (·.1))
        rw [List.map_map] at q
        have q2 : notInD (.int x.1) (.list (G.map fun x => .int x.1)) = some (.bool (!decide (x.1 ∈ G.map (·.1)))) := by
          unfold notInD
          rw [show (G.map fun x : Pt => PyData.int x.1) = G.map (PyData.int ∘ fun x : Pt => x.1) from rfl, q]
          rfl
        simp only [mB_ev, mOp2_ev, mVar_ev, a3, getV_some, Res.bind_ok, a1, rd_d, optB_some, q2, optR_some, boolR_bool]) (fun x hx _ => by
        have a1 : ((wipeR ρ3 [23]).set 23 (some (R.d (.int x.1))))[10]? = some (some (.ref d)) := set_old (by show (ρ3.set 23 none)[10]? = _; exact set_old h3.fd)
        have a3 : ((wipeR ρ3 [23]).set 23 (some (R.d (.int x.1))))[23]? = some (some (.d (.int x.1))) := List.getElem?_set_self (by show 23 < (ρ3.set 23 none).length; rw [List.length_set, h3.len]; decide)
        generalize (wipeR ρ3 [23]).set 23 (some (R.d (.int x.1))) = ρ4 at a1 a3
        have hg : getA P x.1 = some x.2 := (mem_get h.nd).mp hx
        have dl := dlook_lck (x := .int x.1) _ hlk rfl
        rw [get_encI, hg] at dl
        simp [a1, a3, dl, hz])
      rw [this]
      congr 2
      rw [← hQ]
      refine List.filter_congr fun x hx => ?_
      congr 1
      rw [decide_eq_decide]
      constructor
      · intro hm
        obtain ⟨y, hy, e⟩ := List.mem_map.mp hm
        rw [← hG] at hy
        rw [← e]
        exact of_decide_eq_true (List.mem_filter.mp hy).2
      · intro hm
        refine List.mem_map.mpr ⟨x, ?_, rfl⟩
        rw [← hG]
        exact List.mem_filter.mpr ⟨hx, decide_eq_true hm⟩
    have dk := dictK_pts Q
    rw [putAll_self hQnd] at dk
    have hdk := dictK_of ρ3 S3 (mFrz (mLockL (mVar 10) (mLc (mItDK false (mVar 10)) [23] (gN 23) (mB (mOp2 notInD (mVar 23) (mVar 20))) (mTup (mCons (mVar 23) (mCons (mDGet (mVar 10) (mVar 23)) mNil)))))) (r := .d (.list (Q.map ptD))) (S1 := S3) (by
      rw [mFrz_ev, lf]
      rfl) rfl dk
    have mm : mulD (.int 51) (.int (G.length : Int)) = some (.int (51 * (G.length : Int))) := mulD_int (mulOk_l (by decide))
    have w11 : (ρ3)[11]? = some (some (.d (.int m))) := h3.wk
    rw [mAsgR_ev, mCons_ev, hdk]
    simp [w11, g20, hz, mm, addD]
end
end G94

set_option Elab.async false
set_option linter.all false
set_option maxRecDepth 100000
set_option exponentiation.threshold 10000
/-! L94y: the law's steps; all cells. -/
namespace G94
open PySem Pi
section
variable {S : Store} {ρ : Pi.Env} {n p c d : Nat} {b tm m : Int} {P : List Pt} {C : List (K2 × CT)}
theorem step_law (h : LW S ρ n p c d b tm P C m) (hl : P.length ≤ 799) : ∃ ρ' S' d' P' C' m', b_law_6 ρ S = .nx ρ' S' ∧ LW S' ρ' n p c d' b tm P' C' m' ∧ P'.length ≤ P.length + 1 := by
  obtain ⟨r, x1, y1, t0, t1, e1⟩ := h.r (arg := mD (.int 5)) (k := 5) (by simp) (by decide) (by decide)
  have h1 := h.cupS x1 y1
  generalize S.set 0 (G94.cup x1 y1) = S1 at *
  by_cases hr : r = 0
  · obtain ⟨ρ', S', d', P', C', m', e, q⟩ := step_del h1 (by omega)
    refine ⟨ρ', S', d', P', C', m', ?_, q⟩
    unfold b_law_6 i_law_7
    refine if_t (S1 := S1) ?_ e
    rw [mB_ev, mOp2_ev, e1]
    simp [hr]
  · obtain ⟨ρ', S', d', P', C', m', e, q⟩ := step_write h1 (by omega)
    refine ⟨ρ', S', d', P', C', m', ?_, q⟩
    unfold b_law_6 i_law_7
    refine if_f (S1 := S1) ?_ e
    rw [mB_ev, mOp2_ev, e1]
    simp [hr]
end
theorem loop_steps {n p c : Nat} {b tm : Int} : ∀ (ds : List D) (S : Store) (ρ : Pi.Env) (d : Nat) (P : List Pt) (C : List (K2 × CT)) (m : Int), LW S ρ n p c d b tm P C m → P.length + ds.length ≤ 790 →
    ∃ ρ' S' d' P' C' m', forLoop (gN 4) b_law_6 ds ρ S = .nx ρ' S' ∧ LW S' ρ' n p c d' b tm P' C' m' ∧ P'.length ≤ P.length + ds.length
  | [], S, ρ, d, P, C, m, h, _ => ⟨ρ, S, d, P, C, m, rfl, h, by simp⟩
  | x :: ds, S, ρ, d, P, C, m, h, hl => by
    rw [List.length_cons] at hl
    obtain ⟨ρ1, S1, d1, P1, C1, m1, e1, h1, l1⟩ := step_law (h.set 4 (some (.d x))) (by omega)
    obtain ⟨ρ2, S2, d2, P2, C2, m2, e2, h2, l2⟩ := loop_steps ds S1 ρ1 d1 P1 C1 m1 h1 (by omega)
    exact ⟨ρ2, S2, d2, P2, C2, m2, forN_of e1 e2, h2, by rw [List.length_cons]; omega⟩
section
variable {S : Store} {ρ : Pi.Env} {n p c d : Nat} {b tm m : Int} {P : List Pt} {C : List (K2 × CT)}
theorem f6_law (h : LW S ρ n p c d b tm P C m) (hl : P.length ≤ 10) : ∃ ρ' S' d' P' C' m', f_law_6 ρ S = .nx ρ' S' ∧ LW S' ρ' n p c d' b tm P' C' m' ∧ P'.length ≤ 30 := by
  obtain ⟨r, x1, y1, t0, t1, e1⟩ := h.r (arg := mD (.int 16)) (k := 16) (by simp) (by decide) (by decide)
  have h1 := h.cupS x1 y1
  generalize S.set 0 (G94.cup x1 y1) = S1 at *
  have hd : ((List.range r.toNat).map fun k : Nat => PyData.int (k : Int)).length ≤ 16 := by rw [List.length_map, List.length_range]; omega
  obtain ⟨ρ', S', d', P', C', m', e, q, l⟩ := loop_steps ((List.range r.toNat).map fun k : Nat => PyData.int (k : Int)) S1 ρ d P C m h1 (by omega)
  refine ⟨ρ', S', d', P', C', m', ?_, q, by omega⟩
  unfold f_law_6
  refine mFor_of (S1 := S1) ?_ e
  rw [mItA_ev, mCons_ev, e1]
  simp [range1_nat t0 (show r ≤ 2 ^ 40 by omega)]
/-- behind the steps -/
structure LQ (S : Store) (ρ : Pi.Env) (n p c d : Nat) (b tm : Int) (P : List Pt) (C : List (K2 × CT)) (m : Int) : Prop where
  lw : LW S ρ n p c d b tm P C m
  pts : ρ[5]? = some (some (.d (.tuple ((srt P).map ptD))))
  cls : ρ[6]? = some (some (.d (.tuple ((srtC (pyrL b (srt P) 51)).map pairC))))
  lp : P.length ≤ 30
theorem LQ.cupS (h : LQ S ρ n p c d b tm P C m) (x y : Int) : LQ (S.set 0 (G94.cup x y)) ρ n p c d b tm P C m := ⟨h.lw.cupS x y, h.pts, h.cls, h.lp⟩
theorem LQ.set (h : LQ S ρ n p c d b tm P C m) (i : Nat) (v : Option R) (hi : i ≠ 1 ∧ i ≠ 3 ∧ i ≠ 8 ∧ i ≠ 9 ∧ i ≠ 10 ∧ i ≠ 11 := by decide) (h5 : i ≠ 5 := by decide) (h6 : i ≠ 6 := by decide) : LQ S (ρ.set i v) n p c d b tm P C m :=
  ⟨h.lw.set i v hi, set_old h.pts h5, set_old h.cls h6, h.lp⟩
theorem LQ.up (h : LQ S ρ n p c d b tm P C m) : Up (srt P) := srt_up h.lw.nd
theorem LQ.bd (h : LQ S ρ n p c d b tm P C m) : ∀ x ∈ srt P, (0 ≤ x.1 ∧ x.1 < 400) ∧ (-20 ≤ x.2 ∧ x.2 ≤ 20) := fun x hx => by
  have := h.lw.bd x ((srt_perm P).mem_iff.mp hx)
  have := h.lw.tt
  omega
theorem LQ.len (h : LQ S ρ n p c d b tm P C m) : (srt P).length ≤ 30 := by rw [srt_len]; exact h.lp
theorem okS_cells (L : List (K2 × CT)) (hl : L.length ≤ 100000) : okS (.tuple (L.map pairC)) = true := by
  rw [okS, List.length_map, decide_eq_true hl, Bool.true_and]
  refine okSs_of fun x hx => ?_
  obtain ⟨y, _, rfl⟩ := List.mem_map.mp hx
  rfl
theorem depth_cells (L : List (K2 × CT)) : (PyData.tuple (L.map pairC)).depth ≤ 5 := by
  rw [PyData.depth]
  have : PyData.depthAll (L.map pairC) ≤ 4 := depthAll_le fun x hx => by
    obtain ⟨y, _, rfl⟩ := List.mem_map.mp hx
    simp [pairC, cD, PyData.depth, PyData.depthAll]
  omega
theorem srtC_len (L : List (K2 × CT)) : (srtC L).length = L.length := (sortBy_perm L).length_eq
theorem LQ.cells (h : LQ S ρ n p c d b tm P C m) : srtC C = srtC (pyrL b (srt P) 51) := h.lw.ci.same (pyr_CI h.lw.hb.1 _)
theorem LQ.clen (h : LQ S ρ n p c d b tm P C m) : C.length ≤ 51 * 60 := by
  have := MI.len h.lw.hb.1 h.lw.ci
  have := h.len
  omega
theorem LQ.plen (h : LQ S ρ n p c d b tm P C m) : (srtC (pyrL b (srt P) 51)).length ≤ 51 * 60 := by
  rw [← h.cells, srtC_len]; exact h.clen
theorem i5_law (h : LQ S ρ n p c d b tm P C m) : i_law_5 ρ S = .nx ρ S := by
  have ha := w_all h.lw.vs (by have := h.clen; omega)
  have hc := p_cells_of h.lw.hb h.up (fun p hp => (h.bd p hp).1) (fun p hp => by have := (h.bd p hp).2; omega) (by have := h.len; omega) S
  have hw := w_work h.lw.vs
  rw [h.cells] at ha
  have hpl := h.plen
  have hok := okS_cells (srtC (pyrL b (srt P) 51)) (by omega)
  have hdp := depth_cells (srtC (pyrL b (srt P) 51))
  have g5 := h.pts
  have g6 := h.cls
  generalize (srtC (pyrL b (srt P) 51)).map pairC = L at *
  have hs := p_same (.tuple [.tuple L, .tuple L, .int m]) S (by simp only [okS, okSs] at hok ⊢; simp [hok]) (by simp only [PyData.depth, PyData.depthAll] at hdp ⊢; omega)
  have k1 := h.lw.vs.kAll
  have k2 := h.lw.vs.kWork
  unfold i_law_5
  simp [h.lw.vw, h.lw.bs, h.lw.wk, g5, g6, k1, k2, ha, hc, hw, hz, hs]
end
end G94

set_option Elab.async false
set_option linter.all false
set_option maxRecDepth 100000
set_option exponentiation.threshold 10000
/-! L94z: the law's spans and columns. -/
namespace G94
open PySem Pi
/-- the points of a span, picked by the law -/
theorem lc_pick {A : List Pt} (hl : A.length ≤ 100000) {ρ : Pi.Env} (hlen : ρ.length = 28) (h5 : ρ[5]? = some (some (.d (.tuple (A.map ptD))))) {i j : Nat} {lo hi : Int} (hi' : ρ[i]? = some (some (.d (.int lo)))) (hj : ρ[j]? = some (some (.d (.int hi)))) (hij : i ≠ 23 ∧ i ≠ 24 ∧ j ≠ 23 ∧ j ≠ 24) (S : Store) :
    mLc (mItS (mVar 5)) [23, 24] (gT [(gN 23), (gN 24)]) (mB (mChain leD leD (mVar i) (mVar 23) (mVar j))) (mTup (mCons (mVar 23) (mCons (mVar 24) mNil))) ρ S = .ok ((rng lo (hi + 1) A).map ptD) S := by
  have lc : lcLoop (wipeR ρ [23, 24]) (gT [(gN 23), (gN 24)]) (mB (mChain leD leD (mVar i) (mVar 23) (mVar j))) (mTup (mCons (mVar 23) (mCons (mVar 24) mNil))) (A.map ptD) S = .ok ((rng lo (hi + 1) A).map ptD) S :=
    lc_of ptD fun x hx => by
      have hw : wipeR ρ [23, 24] = (ρ.set 24 none).set 23 none := rfl
      refine ⟨((wipeR ρ [23, 24]).set 23 (some (.d (.int x.1)))).set 24 (some (.d (.int x.2))), by simp, ?_⟩
      have a1 : (((wipeR ρ [23, 24]).set 23 (some (R.d (.int x.1)))).set 24 (some (R.d (.int x.2))))[i]? = some (some (.d (.int lo))) := set_old (set_old (by rw [hw]; exact set_old (set_old hi' hij.2.1.symm) hij.1.symm) hij.1.symm) hij.2.1.symm
      have a2 : (((wipeR ρ [23, 24]).set 23 (some (R.d (.int x.1)))).set 24 (some (R.d (.int x.2))))[j]? = some (some (.d (.int hi))) := set_old (set_old (by rw [hw]; exact set_old (set_old hj hij.2.2.2.symm) hij.2.2.1.symm) hij.2.2.1.symm) hij.2.2.2.symm
      have a3 : (((wipeR ρ [23, 24]).set 23 (some (R.d (.int x.1)))).set 24 (some (R.d (.int x.2))))[23]? = some (some (.d (.int x.1))) := set_old (set_get (n := 28) (by rw [hw]; simp [hlen]) (by decide))
      have a4 : (((wipeR ρ [23, 24]).set 23 (some (R.d (.int x.1)))).set 24 (some (R.d (.int x.2))))[24]? = some (some (.d (.int x.2))) := set_get (n := 28) (by rw [hw]; simp [hlen]) (by decide)
      generalize ((wipeR ρ [23, 24]).set 23 (some (R.d (.int x.1)))).set 24 (some (R.d (.int x.2))) = ρ3 at a1 a2 a3 a4
      have hlt : x.1 < hi + 1 ↔ x.1 ≤ hi := by omega
      refine ⟨?_, fun _ => ?_⟩
      · by_cases c1 : lo ≤ x.1 <;> by_cases c2 : x.1 ≤ hi <;> simp [a1, a2, a3, c1, c2, hlt]
      · simp [a3, a4, hz]
  have e3 : ((rng lo (hi + 1) A).map ptD).length ≤ sizeLine := by rw [List.length_map, hz]; have := rng_len lo (hi + 1) A; omega
  rw [mLc_ev, mItS_ev, mVar_ev, h5]
  simp only [getV_some, Res.bind_ok, rdR_d, optB_some, itD_tup, lc, noEx_okE, if_pos e3]
theorem colsD_ok (A : List Pt) (sp : List Pt) (h : sp.length ≤ 1000) : okS (.tuple (colsD A sp)) = true := by
  rw [okS]
  unfold colsD
  rw [List.length_map, decide_eq_true (by omega), Bool.true_and]
  refine okSs_of fun x hx => ?_
  obtain ⟨y, _, rfl⟩ := List.mem_map.mp hx
  cases optP (rng y.1 (y.2 + 1) A) <;> rfl
theorem colsD_dp (A : List Pt) (sp : List Pt) : (PyData.tuple (colsD A sp)).depth ≤ 5 := by
  rw [PyData.depth]
  have : PyData.depthAll (colsD A sp) ≤ 4 := depthAll_le fun x hx => by
    unfold colsD at hx
    obtain ⟨y, _, rfl⟩ := List.mem_map.mp hx
    cases optP (rng y.1 (y.2 + 1) A) <;> simp [optC, cD, PyData.depth, PyData.depthAll]
  omega
section
variable {S : Store} {ρ : Pi.Env} {n p c d : Nat} {b tm m : Int} {P : List Pt} {C : List (K2 × CT)}
theorem due_law (h : LQ S ρ n p c d b tm P C m) {sp : List Pt} (hsp : sp.length ≤ 1000) (h15 : ρ[15]? = some (some (.d (.list (sp.map ptD))))) :
    mAsg (gN 16) (mCB tupleD (mCons (mFrz (mLc (mItS (mVar 15)) [26, 27] (gT [(gN 26), (gN 27)]) mYes (mCallP m__law_cell (mCons (mFrz (mLc (mItS (mVar 5)) [23, 24] (gT [(gN 23), (gN 24)]) (mB (mChain leD leD (mVar 26) (mVar 23) (mVar 27))) (mTup (mCons (mVar 23) (mCons (mVar 24) mNil))))) mNil)))) mNil)) ρ S = .nx (ρ.set 16 (some (.d (.tuple (colsD (srt P) sp))))) S := by
  have lc : lcLoop (wipeR ρ [26, 27]) (gT [(gN 26), (gN 27)]) mYes (mCallP m__law_cell (mCons (mFrz (mLc (mItS (mVar 5)) [23, 24] (gT [(gN 23), (gN 24)]) (mB (mChain leD leD (mVar 26) (mVar 23) (mVar 27))) (mTup (mCons (mVar 23) (mCons (mVar 24) mNil))))) mNil)) (sp.map ptD) S = .ok (colsD (srt P) sp) S :=
    lc_all ptD fun x hx => by
      have hw : wipeR ρ [26, 27] = (ρ.set 27 none).set 26 none := rfl
      refine ⟨((wipeR ρ [26, 27]).set 26 (some (.d (.int x.1)))).set 27 (some (.d (.int x.2))), by simp, ?_⟩
      have a5 : (((wipeR ρ [26, 27]).set 26 (some (R.d (.int x.1)))).set 27 (some (R.d (.int x.2))))[5]? = some (some (.d (.tuple ((srt P).map ptD)))) := set_old (set_old (by rw [hw]; exact set_old (set_old h.pts)))
      have a3 : (((wipeR ρ [26, 27]).set 26 (some (R.d (.int x.1)))).set 27 (some (R.d (.int x.2))))[26]? = some (some (.d (.int x.1))) := set_old (set_get (n := 28) (by rw [hw]; simp [h.lw.len]) (by decide))
      have a4 : (((wipeR ρ [26, 27]).set 26 (some (R.d (.int x.1)))).set 27 (some (R.d (.int x.2))))[27]? = some (some (.d (.int x.2))) := set_get (n := 28) (by rw [hw]; simp [h.lw.len]) (by decide)
      have al : (((wipeR ρ [26, 27]).set 26 (some (R.d (.int x.1)))).set 27 (some (R.d (.int x.2)))).length = 28 := by rw [hw]; simp [h.lw.len]
      generalize ((wipeR ρ [26, 27]).set 26 (some (R.d (.int x.1)))).set 27 (some (R.d (.int x.2))) = ρ3 at a5 a3 a4 al
      have pk := lc_pick (by have := h.len; omega) al a5 a3 a4 (by decide) S
      have hc := p_law_cell (rng x.1 (x.2 + 1) (srt P)) (by have := rng_len x.1 (x.2 + 1) (srt P); have := h.len; omega) S
      rw [mCallP_ev, mCons_ev, mFrz_ev, pk]
      simp [hc]
  have e3 : (colsD (srt P) sp).length ≤ sizeLine := by unfold colsD; rw [List.length_map, hz]; omega
  rw [mAsg_ev, mCB_ev, mCons_ev, mFrz_ev, mLc_ev, mItS_ev, mVar_ev, h15]
  simp only [getV_some, Res.bind_ok, rdR_d, optB_some, itD_lst, lc, noEx_okE, if_pos e3]
  simp
theorem i4_law (h : LQ S ρ n p c d b tm P C m) {lo hi : Int} {k : Nat} (hs : 0 ≤ lo ∧ lo ≤ hi ∧ hi ≤ 1000000000000000) (hk : 1 ≤ k ∧ k ≤ 256) (he : (k : Int) ≤ hi + 1 - lo)
    (h12 : ρ[12]? = some (some (.d (.int lo)))) (h13 : ρ[13]? = some (some (.d (.int hi)))) (h14 : ρ[14]? = some (some (.d (.int k)))) (h15 : ρ[15]? = some (some (.d (.list ((colL hi k lo).map ptD))))) (h16 : ρ[16]? = some (some (.d (.tuple (colsD (srt P) (colL hi k lo)))))) :
    i_law_4 ρ S = .nx ρ S := by
  have c1 := p_column_spans hs hk he S
  have c2 := w_columns h.lw.hb h.lw.ps (by have := h.lp; omega) hs hk he h.lw.vs h.lw.ci
  have c3 := p_columns_of h.up (fun x hx => by have := h.bd x hx; omega) (by have := h.len; omega) hs hk he S
  have g5 := h.pts
  have hcl := colL_len hi k lo
  have ok1 := colsD_ok (srt P) (colL hi k lo) (by omega)
  have dp1 := colsD_dp (srt P) (colL hi k lo)
  generalize colsD (srt P) (colL hi k lo) = L at *
  have ok2 : okS (.tuple ((colL hi k lo).map ptD)) = true := by
    rw [okS, List.length_map, decide_eq_true (by omega), Bool.true_and]
    refine okSs_of fun x hx => ?_
    obtain ⟨y, _, rfl⟩ := List.mem_map.mp hx
    rfl
  have dp2 : (PyData.tuple ((colL hi k lo).map ptD)).depth ≤ 5 := by
    rw [PyData.depth]
    have : PyData.depthAll ((colL hi k lo).map ptD) ≤ 4 := depthAll_le fun x hx => by
      obtain ⟨y, _, rfl⟩ := List.mem_map.mp hx
      simp [ptD, PyData.depth, PyData.depthAll]
    omega
  generalize (colL hi k lo).map ptD = M at *
  have hsm := p_same (.tuple [.tuple M, .tuple L, .tuple L]) S (by simp only [okS, okSs] at ok1 ok2 ⊢; simp [ok1, ok2]) (by simp only [PyData.depth, PyData.depthAll] at dp1 dp2 ⊢; omega)
  unfold i_law_4
  simp [h.lw.vw, g5, h12, h13, h14, h15, h16, c1, c2, c3, h.lw.vs.kCols, hz, hsm]
end
end G94

set_option Elab.async false
set_option linter.all false
set_option maxRecDepth 100000
set_option exponentiation.threshold 10000
/-! L94za: a span's cells and points, counted by the law. -/
namespace G94
open PySem Pi
theorem getA_perm {L M : List (K2 × CT)} (hp : L.Perm M) (hn : (L.map (·.1)).Nodup) (k : K2) : getA L k = getA M k := by
  have hm : (M.map (·.1)).Nodup := (hp.map _).nodup_iff.mp hn
  cases q : getA L k with
  | some v => exact ((mem_get hm).mp (hp.mem_iff.mp ((mem_get hn).mpr q))).symm
  | none =>
    cases r : getA M k with
    | none => rfl
    | some v =>
      have := (mem_get hn).mp (hp.mem_iff.mpr ((mem_get hm).mpr r))
      rw [q] at this; cases this
theorem CI.srt {b : Int} {A : List Pt} {C : List (K2 × CT)} (h : CI b A C) : CI b A (srtC C) := by
  have hp : (srtC C).Perm C := sortBy_perm C
  have hn : ((srtC C).map (·.1)).Nodup := (hp.map _).nodup_iff.mpr h.nd
  exact ⟨hn, fun l q => by rw [getA_perm hp hn]; exact h.at_ l q⟩
theorem pairsOf_cells : ∀ L : List (K2 × CT), pairsOf (L.map pairC) = some (encC L)
  | [] => rfl
  | p :: L => by
    show (pairsOf (L.map pairC)).map ((kD p.1, R.d (cD p.2)) :: ·) = _
    rw [pairsOf_cells L]
    rfl
theorem dictH_cells (L : List (K2 × CT)) (hl : L.length < 1000000) : dictH (.tuple (L.map pairC)) = some (encC (mergeA [] L)) := by
  show (match pairsOf (L.map pairC) with | some kvs => if (kvs.all fun p => (keyH p.1).isSome) = true ∧ kvs.length < 1000000 then some (mergeKv [] kvs) else none | none => none) = _
  rw [pairsOf_cells]
  have h : ((encC L).all fun p => (keyH p.1).isSome) = true := by
    rw [List.all_eq_true]
    intro x hx
    obtain ⟨q, _, rfl⟩ := List.mem_map.mp hx
    exact keyH_k _
  have h2 : (encC L).length < 1000000 := by unfold encC; rw [List.length_map]; exact hl
  simp only [h, h2, and_self, if_true]
  have := merge_enc L []
  exact congrArg some this
theorem CI.asDict {b : Int} {A : List Pt} {C : List (K2 × CT)} (h : CI b A C) {l : Nat} (hl : l < 51) (q : Int) : getA (mergeA [] C) ((l : Int), q) = optP (blk b A l q) := by
  rw [getA_merge C [] h.nd, h.get hl]
  cases optP (blk b A l q) <;> rfl
theorem kD_lp (k : Nat × Nat) : lpD k = kD ((k.1 : Int), (k.2 : Int)) := rfl
theorem loop_inner {b : Int} {A : List Pt} {L : List (K2 × CT)} (hci : CI b A L) (hl : L.length < 1000000) {ρ : Pi.Env} (hlen : ρ.length = 28) (h6 : ρ[6]? = some (some (.d (.tuple (L.map pairC))))) : ∀ (ks : List (Nat × Nat)) (S : Store), (∀ k ∈ ks, k.1 ≤ 49) →
    ∃ T, lcLoop ρ (gN 25) (mB (mDIn false (mVar 25) (mDictH (mVar 6)))) (mVar 25) (ks.map lpD) S = .ok ((ks.filter fun k => (optP (blk b A k.1 (k.2 : Int))).isSome).map lpD) (S ++ T)
  | [], S, _ => ⟨[], by simp⟩
  | k :: ks, S, hk => by
    have a6 : (ρ.set 25 (some (R.d (lpD k))))[6]? = some (some (.d (.tuple (L.map pairC)))) := set_old h6
    have a25 : (ρ.set 25 (some (R.d (lpD k))))[25]? = some (some (.d (lpD k))) := set_get hlen (by decide)
    obtain ⟨T, e⟩ := loop_inner hci hl hlen h6 ks (S ++ [.dih (encC (mergeA [] L))]) fun j hj => hk j (List.mem_cons_of_mem _ hj)
    refine ⟨[.dih (encC (mergeA [] L))] ++ T, ?_⟩
    rw [List.map_cons, lcLoop_cons, gN_ev, optL_some]
    have dk := dictH_of (ρ.set 25 (some (R.d (lpD k)))) S (mVar 6) (r := .d (.tuple (L.map pairC))) (S1 := S) (by rw [mVar_ev, a6]; rfl) rfl (dictH_cells L hl)
    have dl := dlook_dih (S := S ++ [.dih (encC (mergeA [] L))]) (n := S.length) (kvs := encC (mergeA [] L)) (x := lpD k) (by simp) (by rw [kD_lp]; exact keyH_k _)
    rw [kD_lp, get_encC, hci.asDict (by have := hk k List.mem_cons_self; omega)] at dl
    have cond : mB (mDIn false (mVar 25) (mDictH (mVar 6))) (ρ.set 25 (some (R.d (lpD k)))) S = .ok ((optP (blk b A k.1 (k.2 : Int))).isSome) (S ++ [.dih (encC (mergeA [] L))]) := by
      rw [mB_ev, mDIn_ev, mVar_ev, a25, getV_some, Res.bind_ok, dk, Res.bind_ok, rdR_d, optB_some]
      rw [kD_lp, dl, optB_some, Res.bind_ok, boolR_bool]
      congr 1
      cases optP (blk b A k.1 (k.2 : Int)) <;> rfl
    rw [cond, Res.bind_ok]
    cases q : (optP (blk b A k.1 (k.2 : Int))).isSome with
    | true =>
      rw [if_pos rfl, mVar_ev, a25, getV_some, Res.bind_ok, rdR_d, optB_some, e, Res.bind_ok, List.filter_cons, if_pos q, List.map_cons, List.append_assoc]
    | false =>
      rw [if_neg (by decide), e, List.filter_cons, if_neg (by rw [q]; decide), List.append_assoc]
theorem fst_eq {b lo : Int} (hb : 0 < b) (h : 0 ≤ lo) : (lo + b - 1) / b = fstC b lo := by
  obtain ⟨h0, h1, h2⟩ := fst_bd hb h
  generalize fstC b lo = q at *
  have e : lo + b - 1 = (lo + b - 1 - q * b) + q * b := by omega
  rw [e, Int.add_mul_ediv_right _ _ (by omega), Int.ediv_eq_zero_of_lt (by omega) (by omega)]
  omega
theorem filt_or {α : Type} (g g1 g2 : α → Bool) : ∀ A : List α, (∀ x ∈ A, g x = (g1 x || g2 x) ∧ (g1 x && g2 x) = false) → (A.filter g).length = (A.filter g1).length + (A.filter g2).length
  | [], _ => rfl
  | x :: A, h => by
    have ih := filt_or g g1 g2 A fun y hy => h y (List.mem_cons_of_mem _ hy)
    obtain ⟨e1, e2⟩ := h x List.mem_cons_self
    rw [List.filter_cons, List.filter_cons, List.filter_cons, e1]
    cases q1 : g1 x <;> cases q2 : g2 x
    · simpa using ih
    · simp [ih]; omega
    · simp [ih]; omega
    · rw [q1, q2] at e2; cases e2
def edgB (b lo hi : Int) (x : Pt) : Bool := (decide (lo ≤ x.1) && decide (x.1 ≤ hi)) && (decide (lstC b hi < fstC b lo) || !(decide (fstC b lo ≤ x.1 / b) && decide (x.1 / b ≤ lstC b hi)))
theorem edge_bool (t lo hi u v : Int) (h1 : lo ≤ u) (h2 : u ≤ v) (h3 : v ≤ hi + 1) : ((decide (lo ≤ t) && decide (t ≤ hi)) && (false || !(decide (u ≤ t) && decide (t < v)))) = (decide (lo ≤ t ∧ t < u) || decide (v ≤ t ∧ t < hi + 1)) ∧ (decide (lo ≤ t ∧ t < u) && decide (v ≤ t ∧ t < hi + 1)) = false := by
  constructor
  · rw [Bool.eq_iff_iff]
    simp only [Bool.and_eq_true, Bool.or_eq_true, decide_eq_true_eq, Bool.false_or, Bool.not_eq_true', Bool.and_eq_false_imp, decide_eq_false_iff_not]
    omega
  · rw [Bool.eq_false_iff]
    simp only [ne_eq, Bool.and_eq_true, decide_eq_true_eq]
    omega
theorem span_count {b : Int} (hb : 0 < b) (A : List Pt) {lo hi : Int} (h0 : 0 ≤ lo) : (((if fstC b lo ≤ lstC b hi then innC b A lo hi else []).length : Nat) : Int) + ((A.filter (edgB b lo hi)).length : Nat) = spanN b A lo hi := by
  unfold spanN
  by_cases hc : lstC b hi < fstC b lo
  · rw [if_pos hc, if_neg (by omega)]
    have : A.filter (edgB b lo hi) = rng lo (hi + 1) A := List.filter_congr fun x _ => by
      unfold edgB
      rw [decide_eq_true hc]
      have hlt : x.1 < hi + 1 ↔ x.1 ≤ hi := by omega
      by_cases c1 : lo ≤ x.1 <;> by_cases c2 : x.1 ≤ hi <;> simp [c1, c2, hlt]
    rw [this]
    simp
  · rw [if_neg hc, if_pos (by omega)]
    have : (A.filter (edgB b lo hi)).length = (rng lo (fstC b lo * b) A).length + (rng ((lstC b hi + 1) * b) (hi + 1) A).length := by
      unfold rng
      refine filt_or _ _ _ A fun x _ => ?_
      obtain ⟨q0, q1, q2⟩ := fst_bd hb h0
      obtain ⟨l1, l2⟩ := lst_bd (hi := hi) hb
      have hq : fstC b lo * b ≤ (lstC b hi + 1) * b := Int.mul_le_mul_of_nonneg_right (by omega) (by omega)
      have e1 : fstC b lo ≤ x.1 / b ↔ fstC b lo * b ≤ x.1 := Int.le_ediv_iff_mul_le hb
      have e2 : x.1 / b ≤ lstC b hi ↔ x.1 < (lstC b hi + 1) * b := by
        rw [← Int.ediv_lt_iff_lt_mul hb]; omega
      unfold edgB
      rw [decide_eq_false hc, decide_eq_decide.mpr e1, decide_eq_decide.mpr e2]
      exact edge_bool x.1 lo hi _ _ q1 hq l1
    rw [this]
    omega
end G94

set_option Elab.async false
set_option linter.all false
set_option maxRecDepth 100000
set_option exponentiation.threshold 10000
/-! L94zb: a question of the law. -/
namespace G94
open PySem Pi
section
variable {S : Store} {ρ : Pi.Env} {n p c d : Nat} {b tm m : Int} {P : List Pt} {C : List (K2 × CT)}
theorem LW.app (h : LW S ρ n p c d b tm P C m) (T : Store) : LW (S ++ T) ρ n p c d b tm P C m := by
  obtain ⟨x, y, e⟩ := h.st
  exact { h with
    st := ⟨x, y, by rw [List.getElem?_append_left (List.getElem?_eq_some_iff.mp e).1]; exact e⟩
    vs := h.vs.app T
    dc := by rw [List.getElem?_append_left (List.getElem?_eq_some_iff.mp h.dc).1]; exact h.dc }
theorem LQ.app (h : LQ S ρ n p c d b tm P C m) (T : Store) : LQ (S ++ T) ρ n p c d b tm P C m := ⟨h.lw.app T, h.pts, h.cls, h.lp⟩
theorem inner_law (h : LQ S ρ n p c d b tm P C m) {lo hi : Int} (hs : 0 ≤ lo ∧ lo ≤ hi ∧ hi ≤ 1000000000000000) (h21 : ρ[21]? = some (some (.d (.int (fstC b lo))))) (h22 : ρ[22]? = some (some (.d (.int (lstC b hi))))) :
    ∃ T, mAsg (gN 17) (mIfE (mB (mOp2 leD (mVar 21) (mVar 22))) (mFrz (mLc (mItS (mCallP m_cover (mCons (mVar 21) (mCons (mVar 22) mNil)))) [25] (gN 25) (mB (mDIn false (mVar 25) (mDictH (mVar 6)))) (mVar 25))) (mFrz (mDisp mNil))) ρ S =
      .nx (ρ.set 17 (some (.d (.list ((if fstC b lo ≤ lstC b hi then innC b (srt P) lo hi else []).map lpD))))) (S ++ T) := by
  by_cases hc : fstC b lo ≤ lstC b hi
  · obtain ⟨q0, q1, q2⟩ := fst_bd (lo := lo) h.lw.hb.1 hs.1
    have hl : lstC b hi ≤ hi := by
      unfold lstC
      have : (hi + 1) / b ≤ hi + 1 := Int.ediv_le_self _ (by omega)
      omega
    have hl0 : 0 ≤ lstC b hi := by omega
    have ef : ((fstC b lo).toNat : Int) = fstC b lo := by omega
    have el : ((lstC b hi).toNat : Int) = lstC b hi := by omega
    have cv := p_cover (fstC b lo).toNat (lstC b hi).toNat (by omega) (by omega) S
    rw [ef, el] at cv
    have hlv : ∀ k ∈ cov (fstC b lo).toNat (lstC b hi).toNat, k.1 ≤ 49 := cov_lv _ (by omega) _ _
    obtain ⟨T, e⟩ := loop_inner (pyr_CI h.lw.hb.1 (srt P)).srt (by have := h.plen; omega) (ρ := wipeR ρ [25]) (by show (ρ.set 25 none).length = 28; rw [List.length_set]; exact h.lw.len) (by show (ρ.set 25 none)[6]? = _; exact set_old h.cls) (cov (fstC b lo).toNat (lstC b hi).toNat) S hlv
    refine ⟨T, ?_⟩
    have hlen : (innC b (srt P) lo hi).length ≤ 102 := by
      unfold innC
      exact Nat.le_trans (List.length_filter_le _ _) (cov_le _ _ _)
    have e3 : ((innC b (srt P) lo hi).map lpD).length ≤ sizeLine := by rw [List.length_map, hz]; omega
    have il : mLc (mItS (mCallP m_cover (mCons (mVar 21) (mCons (mVar 22) mNil)))) [25] (gN 25) (mB (mDIn false (mVar 25) (mDictH (mVar 6)))) (mVar 25) ρ S = .ok ((innC b (srt P) lo hi).map lpD) (S ++ T) := by
      have it : mItS (mCallP m_cover (mCons (mVar 21) (mCons (mVar 22) mNil))) ρ S = .ok ((cov (fstC b lo).toNat (lstC b hi).toNat).map lpD) S := by
        simp [h21, h22, cv]
      rw [mLc_ev, it, Res.bind_ok, e, noEx_okE, Res.bind_ok]
      exact if_pos e3
    have cd : mB (mOp2 leD (mVar 21) (mVar 22)) ρ S = .ok true S := by simp [h21, h22, hc]
    rw [if_pos hc, mAsg_ev, mIfE_ev, cd, Res.bind_ok, if_pos rfl, mFrz_ev, il]
    rfl
  · refine ⟨[], ?_⟩
    simp [h21, h22, hc, hz]
theorem edges_law (h : LQ S ρ n p c d b tm P C m) {lo hi : Int} (h12 : ρ[12]? = some (some (.d (.int lo)))) (h13 : ρ[13]? = some (some (.d (.int hi)))) (h21 : ρ[21]? = some (some (.d (.int (fstC b lo))))) (h22 : ρ[22]? = some (some (.d (.int (lstC b hi))))) :
    mSetL 18 (mLc (mItS (mVar 5)) [23, 24] (gT [(gN 23), (gN 24)]) (mAndT (mB (mChain leD leD (mVar 12) (mVar 23) (mVar 13))) (mOrT (mB (mOp2 gtD (mVar 21) (mVar 22))) (mNotT (mB (mChain leD leD (mVar 21) (mOp2 divD (mVar 23) (mVar 8)) (mVar 22)))))) (mD (.int 1))) ρ S =
      .nx (ρ.set 18 (some (.d (.list (((srt P).filter (edgB b lo hi)).map fun _ => .int 1))))) S := by
  have lc : lcLoop (wipeR ρ [23, 24]) (gT [(gN 23), (gN 24)]) (mAndT (mB (mChain leD leD (mVar 12) (mVar 23) (mVar 13))) (mOrT (mB (mOp2 gtD (mVar 21) (mVar 22))) (mNotT (mB (mChain leD leD (mVar 21) (mOp2 divD (mVar 23) (mVar 8)) (mVar 22)))))) (mD (.int 1)) ((srt P).map ptD) S = .ok (((srt P).filter (edgB b lo hi)).map fun _ => .int 1) S :=
    lc_of ptD fun x hx => by
      have hw : wipeR ρ [23, 24] = (ρ.set 24 none).set 23 none := rfl
      refine ⟨((wipeR ρ [23, 24]).set 23 (some (.d (.int x.1)))).set 24 (some (.d (.int x.2))), by simp, ?_⟩
      have ol : ∀ (i : Nat) (v : Option R), i ≠ 23 → i ≠ 24 → ρ[i]? = some v → (((wipeR ρ [23, 24]).set 23 (some (R.d (.int x.1)))).set 24 (some (R.d (.int x.2))))[i]? = some v := fun i v n1 n2 hv => set_old (set_old (by rw [hw]; exact set_old (set_old hv n2.symm) n1.symm) n1.symm) n2.symm
      have a12 := ol 12 _ (by decide) (by decide) h12
      have a13 := ol 13 _ (by decide) (by decide) h13
      have a21 := ol 21 _ (by decide) (by decide) h21
      have a22 := ol 22 _ (by decide) (by decide) h22
      have a8 := ol 8 _ (by decide) (by decide) h.lw.bs
      have a3 : (((wipeR ρ [23, 24]).set 23 (some (R.d (.int x.1)))).set 24 (some (R.d (.int x.2))))[23]? = some (some (.d (.int x.1))) := set_old (set_get (n := 28) (by rw [hw]; simp [h.lw.len]) (by decide))
      clear ol
      generalize ((wipeR ρ [23, 24]).set 23 (some (R.d (.int x.1)))).set 24 (some (R.d (.int x.2))) = ρ3 at *
      have dv : divD (.int x.1) (.int b) = some (.int (x.1 / b)) := divD_int h.lw.hb.1 (Int.lt_of_le_of_lt h.lw.hb.2 (by decide))
      refine ⟨?_, fun _ => by simp⟩
      unfold edgB
      by_cases c1 : lo ≤ x.1 <;> by_cases c2 : x.1 ≤ hi <;> by_cases c3 : lstC b hi < fstC b lo <;> by_cases c4 : fstC b lo ≤ x.1 / b <;> by_cases c5 : x.1 / b ≤ lstC b hi <;> simp [a12, a13, a21, a22, a8, a3, dv, c1, c2, c3, c4, c5]
  have e3 : (((srt P).filter (edgB b lo hi)).map fun _ => PyData.int 1).length ≤ sizeLine := by
    rw [List.length_map, hz]
    have := List.length_filter_le (edgB b lo hi) (srt P)
    have := h.len
    omega
  rw [mSetL_ev, mLc_ev, mItS_ev, mVar_ev, h.pts]
  simp only [getV_some, Res.bind_ok, rdR_d, optB_some, itD_tup, lc, noEx_okE, if_pos e3, Res.out_ok]
  rw [if_pos (by rw [h.lw.len]; decide)]
theorem i3_law (h : LQ S ρ n p c d b tm P C m) {lo hi : Int} (hs : 0 ≤ lo ∧ lo ≤ hi ∧ hi ≤ 1000000000000000) (h12 : ρ[12]? = some (some (.d (.int lo)))) (h13 : ρ[13]? = some (some (.d (.int hi))))
    (h17 : ρ[17]? = some (some (.d (.list ((if fstC b lo ≤ lstC b hi then innC b (srt P) lo hi else []).map lpD))))) (h18 : ρ[18]? = some (some (.d (.list (((srt P).filter (edgB b lo hi)).map fun _ => .int 1))))) (h19 : ρ[19]? = some (some (.d (optC (optP (rng lo (hi + 1) (srt P))))))) :
    i_law_3 ρ S = .nx ρ S := by
  have e := w_span h.lw.hb h.lw.ps (by have := h.lp; omega) hs h.lw.vs h.lw.ci
  have sc := span_count (hi := hi) h.lw.hb.1 (srt P) hs.1
  rw [← sc] at e
  have ok : okS (optC (optP (rng lo (hi + 1) (srt P)))) = true := by cases optP (rng lo (hi + 1) (srt P)) <;> rfl
  have dp : (optC (optP (rng lo (hi + 1) (srt P)))).depth ≤ 4 := by cases optP (rng lo (hi + 1) (srt P)) <;> simp [optC, cD, PyData.depth, PyData.depthAll]
  generalize optC (optP (rng lo (hi + 1) (srt P))) = X at *
  generalize (if fstC b lo ≤ lstC b hi then innC b (srt P) lo hi else []) = I at *
  generalize (srt P).filter (edgB b lo hi) = E at *
  have hsm := p_same (.tuple [X, .int ((I.length : Int) + (E.length : Int))]) S (by simp [okS, okSs, ok]) (by simp only [PyData.depth, PyData.depthAll] at dp ⊢; omega)
  unfold i_law_3
  simp [h.lw.vw, h12, h13, h17, h18, h19, h.lw.vs.kSpan, e, hz, addD, hsm]
end
end G94

set_option Elab.async false
set_option linter.all false
set_option maxRecDepth 100000
set_option exponentiation.threshold 10000
/-! L94zc: the law's turns, its end. -/
namespace G94
open PySem Pi
section
variable {S : Store} {ρ : Pi.Env} {n p c d : Nat} {b tm m : Int} {P : List Pt} {C : List (K2 × CT)}
theorem b2_law (h : LQ S ρ n p c d b tm P C m) : ∃ ρ' S', b_law_2 ρ S = .nx ρ' S' ∧ LQ S' ρ' n p c d b tm P C m := by
  have htt := h.lw.tt
  have hbb := h.lw.bb
  obtain ⟨lo, x1, y1, t0, t1, e1⟩ := h.lw.r (arg := mVar 9) (k := tm) (by simp [h.lw.tms]) htt.1 (by omega)
  have h1 := (h.cupS x1 y1).set 12 (some (.d (.int lo)))
  have g12 : (ρ.set 12 (some (R.d (.int lo))))[12]? = some (some (.d (.int lo))) := set_get h.lw.len (by decide)
  generalize hS1 : S.set 0 (G94.cup x1 y1) = S1 at *
  generalize hρ1 : ρ.set 12 (some (R.d (.int lo))) = ρ1 at *
  obtain ⟨w, x2, y2, u0, u1, e2⟩ := h1.lw.r (arg := mVar 9) (k := tm) (by simp [h1.lw.tms]) htt.1 (by omega)
  have h2 := (h1.cupS x2 y2).set 13 (some (.d (.int (lo + w))))
  generalize hS2 : S1.set 0 (G94.cup x2 y2) = S2 at *
  have g13 : (ρ1.set 13 (some (R.d (.int (lo + w)))))[13]? = some (some (.d (.int (lo + w)))) := set_get h1.lw.len (by decide)
  have g12 : (ρ1.set 13 (some (R.d (.int (lo + w)))))[12]? = some (some (.d (.int lo))) := set_old g12
  generalize hρ2 : ρ1.set 13 (some (R.d (.int (lo + w)))) = ρ2 at *
  generalize hhi : lo + w = hi at *
  have hs : 0 ≤ lo ∧ lo ≤ hi ∧ hi ≤ 1000000000000000 := by omega
  obtain ⟨k0, x3, y3, v0, v1, e3⟩ := h2.lw.r (arg := mCB minD (mCons (mD (.int 8)) (mCons (mOp2 addD (mOp2 subD (mVar 13) (mVar 12)) (mD (.int 1))) mNil))) (k := min 8 (hi - lo + 1)) (by simp [g12, g13, subD, addD]) (by omega) (by omega)
  obtain ⟨k, hk⟩ : ∃ k : Nat, (k : Int) = 1 + k0 := ⟨(1 + k0).toNat, by omega⟩
  have h3 := (h2.cupS x3 y3).set 14 (some (.d (.int (1 + k0))))
  generalize hS3 : S2.set 0 (G94.cup x3 y3) = S3 at *
  have g14 : (ρ2.set 14 (some (R.d (.int (1 + k0)))))[14]? = some (some (.d (.int k))) := by rw [hk]; exact set_get h2.lw.len (by decide)
  have g12 : (ρ2.set 14 (some (R.d (.int (1 + k0)))))[12]? = some (some (.d (.int lo))) := set_old g12
  have g13 : (ρ2.set 14 (some (R.d (.int (1 + k0)))))[13]? = some (some (.d (.int hi))) := set_old g13
  generalize hρ3 : ρ2.set 14 (some (R.d (.int (1 + k0)))) = ρ3 at *
  have he : (k : Int) ≤ hi + 1 - lo := by omega
  have cl := p_law_columns (b := lo) (e := hi) (k := k) (by omega) S3
  have hcl := colL_len hi k lo
  -- spans
  have h4 := h3.set 15 (some (.d (.list ((colL hi k lo).map ptD))))
  have g15 : (ρ3.set 15 (some (R.d (.list ((colL hi k lo).map ptD)))))[15]? = some (some (.d (.list ((colL hi k lo).map ptD)))) := set_get h3.lw.len (by decide)
  have k12 : (ρ3.set 15 (some (R.d (.list ((colL hi k lo).map ptD)))))[12]? = some (some (.d (.int lo))) := set_old g12
  have k13 : (ρ3.set 15 (some (R.d (.list ((colL hi k lo).map ptD)))))[13]? = some (some (.d (.int hi))) := set_old g13
  have k14 : (ρ3.set 15 (some (R.d (.list ((colL hi k lo).map ptD)))))[14]? = some (some (.d (.int k))) := set_old g14
  generalize hρ4 : ρ3.set 15 (some (R.d (.list ((colL hi k lo).map ptD)))) = ρ4 at *
  have ed := due_law h4 (by omega) g15
  have h5 := h4.set 16 (some (.d (.tuple (colsD (srt P) (colL hi k lo)))))
  have g16 : (ρ4.set 16 (some (R.d (.tuple (colsD (srt P) (colL hi k lo))))))[16]? = some (some (.d (.tuple (colsD (srt P) (colL hi k lo))))) := set_get h4.lw.len (by decide)
  have g15 : (ρ4.set 16 (some (R.d (.tuple (colsD (srt P) (colL hi k lo))))))[15]? = _ := set_old g15
  have k12 : (ρ4.set 16 (some (R.d (.tuple (colsD (srt P) (colL hi k lo))))))[12]? = _ := set_old k12
  have k13 : (ρ4.set 16 (some (R.d (.tuple (colsD (srt P) (colL hi k lo))))))[13]? = _ := set_old k13
  have k14 : (ρ4.set 16 (some (R.d (.tuple (colsD (srt P) (colL hi k lo))))))[14]? = _ := set_old k14
  generalize hρ5 : ρ4.set 16 (some (R.d (.tuple (colsD (srt P) (colL hi k lo))))) = ρ5 at *
  have e4 := i4_law h5 hs (by omega) he k12 k13 k14 g15 g16
  -- first, last
  have hf := fst_eq (lo := lo) h.lw.hb.1 hs.1
  have h6 := (h5.set 21 (some (.d (.int (fstC b lo))))).set 22 (some (.d (.int (lstC b hi))))
  have l22 : (((ρ5.set 21 (some (R.d (.int (fstC b lo))))).set 22 (some (R.d (.int (lstC b hi))))))[22]? = some (some (.d (.int (lstC b hi)))) := set_get (n := 28) (by simp [h5.lw.len]) (by decide)
  have l21 : (((ρ5.set 21 (some (R.d (.int (fstC b lo))))).set 22 (some (R.d (.int (lstC b hi))))))[21]? = some (some (.d (.int (fstC b lo)))) := set_old (set_get h5.lw.len (by decide))
  have l12 : (((ρ5.set 21 (some (R.d (.int (fstC b lo))))).set 22 (some (R.d (.int (lstC b hi))))))[12]? = _ := set_old (set_old k12)
  have l13 : (((ρ5.set 21 (some (R.d (.int (fstC b lo))))).set 22 (some (R.d (.int (lstC b hi))))))[13]? = _ := set_old (set_old k13)
  generalize hρ6 : (ρ5.set 21 (some (R.d (.int (fstC b lo))))).set 22 (some (R.d (.int (lstC b hi)))) = ρ6 at *
  obtain ⟨T, ei⟩ := inner_law h6 hs l21 l22
  generalize hI : (if fstC b lo ≤ lstC b hi then innC b (srt P) lo hi else []) = I at *
  have h7 := (h6.app T).set 17 (some (.d (.list (I.map lpD))))
  have m17 : (ρ6.set 17 (some (R.d (.list (I.map lpD)))))[17]? = some (some (.d (.list (I.map lpD)))) := set_get h6.lw.len (by decide)
  have m21 : (ρ6.set 17 (some (R.d (.list (I.map lpD)))))[21]? = _ := set_old l21
  have m22 : (ρ6.set 17 (some (R.d (.list (I.map lpD)))))[22]? = _ := set_old l22
  have m12 : (ρ6.set 17 (some (R.d (.list (I.map lpD)))))[12]? = _ := set_old l12
  have m13 : (ρ6.set 17 (some (R.d (.list (I.map lpD)))))[13]? = _ := set_old l13
  generalize hρ7 : ρ6.set 17 (some (R.d (.list (I.map lpD)))) = ρ7 at *
  generalize hS4 : S3 ++ T = S4 at *
  have ee := edges_law h7 m12 m13 m21 m22
  have h8 := h7.set 18 (some (.d (.list (((srt P).filter (edgB b lo hi)).map fun _ => .int 1))))
  have m18 : (ρ7.set 18 (some (R.d (.list (((srt P).filter (edgB b lo hi)).map fun _ => .int 1)))))[18]? = some (some (.d (.list (((srt P).filter (edgB b lo hi)).map fun _ => .int 1)))) := set_get h7.lw.len (by decide)
  have m17 : (ρ7.set 18 (some (R.d (.list (((srt P).filter (edgB b lo hi)).map fun _ => .int 1)))))[17]? = _ := set_old m17
  have m12 : (ρ7.set 18 (some (R.d (.list (((srt P).filter (edgB b lo hi)).map fun _ => .int 1)))))[12]? = _ := set_old m12
  have m13 : (ρ7.set 18 (some (R.d (.list (((srt P).filter (edgB b lo hi)).map fun _ => .int 1)))))[13]? = _ := set_old m13
  generalize hρ8 : ρ7.set 18 (some (R.d (.list (((srt P).filter (edgB b lo hi)).map fun _ => .int 1)))) = ρ8 at *
  have pk := lc_pick (by have := h8.len; omega) h8.lw.len h8.pts m12 m13 (by decide) S4
  have lcell := p_law_cell (rng lo (hi + 1) (srt P)) (by have := rng_len lo (hi + 1) (srt P); have := h8.len; omega) S4
  have h9 := h8.set 19 (some (.d (optC (optP (rng lo (hi + 1) (srt P))))))
  have m19 : (ρ8.set 19 (some (R.d (optC (optP (rng lo (hi + 1) (srt P)))))))[19]? = some (some (.d (optC (optP (rng lo (hi + 1) (srt P)))))) := set_get h8.lw.len (by decide)
  have m18 : (ρ8.set 19 (some (R.d (optC (optP (rng lo (hi + 1) (srt P)))))))[18]? = _ := set_old m18
  have m17 : (ρ8.set 19 (some (R.d (optC (optP (rng lo (hi + 1) (srt P)))))))[17]? = _ := set_old m17
  have m12 : (ρ8.set 19 (some (R.d (optC (optP (rng lo (hi + 1) (srt P)))))))[12]? = _ := set_old m12
  have m13 : (ρ8.set 19 (some (R.d (optC (optP (rng lo (hi + 1) (srt P)))))))[13]? = _ := set_old m13
  generalize hρ9 : ρ8.set 19 (some (R.d (optC (optP (rng lo (hi + 1) (srt P)))))) = ρ9 at *
  have e9 := i3_law h9 hs m12 m13 (by rw [hI]; exact m17) m18 m19
  refine ⟨ρ9, S4, ?_, h9⟩
  unfold b_law_2
  refine seq_of (ρ1 := ρ1) (S1 := S1) (by rw [mAsg_ev, e1]; simp [hρ1]) ?_
  refine seq_of (ρ1 := ρ2) (S1 := S2) ?_ ?_
  · rw [mAsg_ev, mOp2_ev, mVar_ev, show ρ1[12]? = some (some (.d (.int lo))) by rw [← hρ1]; exact set_get h.lw.len (by decide), getV_some, Res.bind_ok, e2]
    simp [addD, ← hρ2, hhi]
  refine seq_of (ρ1 := ρ3) (S1 := S3) ?_ ?_
  · rw [mAsg_ev, mOp2_ev, mD_ev, Res.bind_ok, e3]
    simp [addD, ← hρ3]
  refine seq_of (ρ1 := ρ4) (S1 := S3) ?_ ?_
  · simp [g12, g13, g14, cl, hρ4]
  refine seq_of (ρ1 := ρ5) (S1 := S3) ed ?_
  refine seq_of (ρ1 := ρ5) (S1 := S3) e4 ?_
  refine seq_of (ρ1 := ρ6) (S1 := S3) ?_ ?_
  · have d1 : divD (.int (lo + b - 1)) (.int b) = some (.int (fstC b lo)) := by rw [divD_int h.lw.hb.1 (Int.lt_of_le_of_lt h.lw.hb.2 (by decide)), hf]
    have d2 : divD (.int (hi + 1)) (.int b) = some (.int ((hi + 1) / b)) := divD_int h.lw.hb.1 (Int.lt_of_le_of_lt h.lw.hb.2 (by decide))
    have eb := h5.lw.bs
    rw [mAsgR_ev]
    simp [k12, k13, eb, addD, subD, d1, d2, hz, ← hρ6, lstC]
  refine seq_of (ρ1 := ρ7) (S1 := S4) ei ?_
  refine seq_of (ρ1 := ρ8) (S1 := S4) ee ?_
  refine seq_of (ρ1 := ρ9) (S1 := S4) ?_ e9
  rw [mAsg_ev, mCallP_ev, mCons_ev, mFrz_ev, pk]
  simp [lcell, hρ9]
end
theorem loop_b2 {n p c d : Nat} {b tm m : Int} {P : List Pt} {C : List (K2 × CT)} : ∀ (ds : List D) (S : Store) (ρ : Pi.Env), LQ S ρ n p c d b tm P C m → ∃ ρ' S', forLoop (gN 7) b_law_2 ds ρ S = .nx ρ' S' ∧ LQ S' ρ' n p c d b tm P C m
  | [], S, ρ, h => ⟨ρ, S, rfl, h⟩
  | x :: ds, S, ρ, h => by
    obtain ⟨ρ1, S1, e1, h1⟩ := b2_law (h.set 7 (some (.d x)))
    obtain ⟨ρ2, S2, e2, h2⟩ := loop_b2 ds S1 ρ1 h1
    exact ⟨ρ2, S2, forN_of e1 e2, h2⟩
end G94

set_option Elab.async false
set_option linter.all false
set_option maxRecDepth 100000
set_option exponentiation.threshold 10000
/-! L94zd: the law. -/
namespace G94
open PySem Pi
theorem w_some (a b : Int) (xs : List D) (h0 : 0 < xs.length) (h1 : xs.length < 2 ^ 31) : ∃ x a' b', x ∈ xs ∧ m__law_some [.ref 0, .d (.list xs)] [cup a b] = .ok (.d x) [cup a' b'] := by
  obtain ⟨r, a', b', r0, r1, e⟩ := r_roll a b (xs.length : Int) [] (by omega) (by omega)
  obtain ⟨k, rfl⟩ : ∃ k : Nat, (k : Int) = r := ⟨r.toNat, by omega⟩
  have hk : k < xs.length := by omega
  refine ⟨xs[k], a', b', List.getElem_mem hk, ?_⟩
  unfold m__law_some
  rw [fnR_ev]
  have ix := ixL xs k hk
  rw [List.getElem?_eq_getElem hk] at ix
  simp [startR, e, ix]
/-- a cup is there -/
structure L0 (S : Store) (ρ : Pi.Env) : Prop where
  len : ρ.length = 28
  cup : ρ[1]? = some (some (.ref 0))
  st : ∃ x y, S[0]? = some (G94.cup x y)
theorem L0.some {S : Store} {ρ : Pi.Env} (h : L0 S ρ) {arg : EM} {xs : List D} (ha : ∀ S : Store, arg ρ S = .ok (.d (.list xs)) S) (h0 : 0 < xs.length) (h1 : xs.length < 2 ^ 31) :
    ∃ x a b, x ∈ xs ∧ mCall1 m__law_some (mCons (mVar 1) (mCons arg mNil)) ρ S = .ok (.d x) (S.set 0 (G94.cup a b)) := by
  obtain ⟨a, b, hS⟩ := h.st
  obtain ⟨x, a', b', hx, e⟩ := w_some a b xs h0 h1
  refine ⟨x, a', b', hx, ?_⟩
  have e2 := run1_ok (F := m__law_some) (i := 0) (ds := [.list xs]) (S := S) (T := []) hS e
  simp [h.cup, ha, e2]
theorem L0.cupS {S : Store} {ρ : Pi.Env} (h : L0 S ρ) (x y : Int) : L0 (S.set 0 (G94.cup x y)) ρ := by
  obtain ⟨a, b, hS⟩ := h.st
  exact ⟨h.len, h.cup, x, y, List.getElem?_set_self (List.getElem?_eq_some_iff.mp hS).1⟩
theorem L0.set {S : Store} {ρ : Pi.Env} (h : L0 S ρ) (i : Nat) (v : Option R) (hi : i ≠ 1 := by decide) : L0 S (ρ.set i v) := ⟨by simp [h.len], set_old h.cup hi, h.st⟩
theorem b1_law {S : Store} {ρ : Pi.Env} (h : L0 S ρ) : ∃ ρ' S', b_law_1 ρ S = .nx ρ' S' ∧ L0 S' ρ' := by
  obtain ⟨xb, a1, b1, mb, e1⟩ := h.some (arg := mFrz (mDisp (mCons (mD (.int 1)) (mCons (mD (.int 2)) (mCons (mD (.int 7)) (mCons (mD (.int 100)) mNil)))))) (xs := [.int 1, .int 2, .int 7, .int 100]) (fun S => by simp [hz]) (by decide) (by decide)
  have h1 := h.cupS a1 b1
  obtain ⟨xt, a2, b2, mt, e2⟩ := h1.some (arg := mFrz (mDisp (mCons (mD (.int 30)) (mCons (mD (.int 400)) mNil)))) (xs := [.int 30, .int 400]) (fun S => by simp [hz]) (by decide) (by decide)
  have h2 := h1.cupS a2 b2
  obtain ⟨b, rfl, hb1, hb2⟩ : ∃ b : Int, xb = .int b ∧ 1 ≤ b ∧ b ≤ 100 := by
    simp only [List.mem_cons, List.not_mem_nil, or_false] at mb
    rcases mb with rfl | rfl | rfl | rfl <;> exact ⟨_, rfl, by decide, by decide⟩
  obtain ⟨tm, rfl, ht1, ht2⟩ : ∃ b : Int, xt = .int b ∧ 0 < b ∧ b ≤ 400 := by
    simp only [List.mem_cons, List.not_mem_nil, or_false] at mt
    rcases mt with rfl | rfl <;> exact ⟨_, rfl, by decide, by decide⟩
  generalize hS1 : S.set 0 (G94.cup a1 b1) = S1 at *
  generalize hS2 : S1.set 0 (G94.cup a2 b2) = S2 at *
  have h3 := (h2.set 8 (some (.d (.int b)))).set 9 (some (.d (.int tm)))
  have g9 : ((ρ.set 8 (some (R.d (.int b)))).set 9 (some (R.d (.int tm))))[9]? = some (some (.d (.int tm))) := set_get (n := 28) (by simp [h.len]) (by decide)
  have g8 : ((ρ.set 8 (some (R.d (.int b)))).set 9 (some (R.d (.int tm))))[8]? = some (some (.d (.int b))) := set_old (set_get h.len (by decide))
  generalize hρ1 : (ρ.set 8 (some (R.d (.int b)))).set 9 (some (R.d (.int tm))) = ρ1 at *
  have hmk := w_make S2 (b := b) (by omega) (mCons (mVar 8) mNil) ρ1 S2 (by simp [g8])
  have hvs := (VS.new S2 b).app [.dic []]
  obtain ⟨cx, cy, hc0⟩ := h3.st
  have hlt : 0 < S2.length := (List.getElem?_eq_some_iff.mp hc0).1
  have hlw : LW (S2 ++ [.obj "View" (vfs b (S2.length + 1) (S2.length + 2) 0), .dic [], .dih []] ++ [.dic []]) (((ρ1.set 3 (some (.ref S2.length))).set 10 (some (.ref (S2.length + 3)))).set 11 (some (.d (.int 0)))) S2.length (S2.length + 1) (S2.length + 2) (S2.length + 3) b tm [] [] 0 :=
    { len := by simp [h3.len]
      cup := set_old (set_old (set_old h3.cup))
      vw := set_old (set_old (set_get h3.len (by decide)))
      bs := set_old (set_old (set_old g8))
      tms := set_old (set_old (set_old g9))
      fd := set_old (set_get (n := 28) (by simp [h3.len]) (by decide))
      wk := set_get (n := 28) (by simp [h3.len]) (by decide)
      st := ⟨cx, cy, by rw [List.append_assoc, List.getElem?_append_left hlt]; exact hc0⟩
      vs := hvs
      dc := by rw [List.getElem?_append_right (by simp)]; simp [encI]
      dn := by omega
      ci := CI.new b
      nd := by simp
      bd := fun x hx => by cases hx
      bb := ⟨hb1, hb2⟩
      tt := ⟨ht1, ht2⟩ }
  generalize hρ2 : ((ρ1.set 3 (some (R.ref S2.length))).set 10 (some (R.ref (S2.length + 3)))).set 11 (some (R.d (.int 0))) = ρ2 at *
  generalize hS3 : S2 ++ [Cell.obj "View" (vfs b (S2.length + 1) (S2.length + 2) 0), .dic [], .dih []] ++ [.dic []] = S3 at *
  obtain ⟨ρ3, S4, d', P', C', m', e6, h4, l4⟩ := f6_law hlw (by simp)
  have hpt := itemsD_srt P' (by omega)
  have h5 := h4.set 5 (some (.d (.tuple ((srt P').map ptD))))
  have g5 : (ρ3.set 5 (some (R.d (.tuple ((srt P').map ptD)))))[5]? = some (some (.d (.tuple ((srt P').map ptD)))) := set_get h4.len (by decide)
  generalize hρ4 : ρ3.set 5 (some (R.d (.tuple ((srt P').map ptD)))) = ρ4 at *
  have hpy := p_law_pyramid h4.hb (A := srt P') (fun x hx => by
    have := h4.bd x ((srt_perm P').mem_iff.mp hx)
    have := h4.tt
    omega) (by rw [srt_len]; omega) S4
  have h6 := h5.set 6 (some (.d (.tuple ((srtC (pyrL b (srt P') 51)).map pairC))))
  have lq : LQ S4 (ρ4.set 6 (some (.d (.tuple ((srtC (pyrL b (srt P') 51)).map pairC))))) S2.length (S2.length + 1) (S2.length + 2) d' b tm P' C' m' := ⟨h6, set_old g5, set_get h5.len (by decide), l4⟩
  have e7 := i5_law lq
  obtain ⟨ρ5, S5, e8, h8⟩ := loop_b2 ((List.range 4).map fun k : Nat => PyData.int (k : Int)) S4 _ lq
  generalize hρ6 : ρ4.set 6 (some (R.d (.tuple ((srtC (pyrL b (srt P') 51)).map pairC)))) = ρ6 at *
  refine ⟨ρ5, S5, ?_, h8.lw.len, h8.lw.cup, h8.lw.st⟩
  unfold b_law_1
  refine seq_of (ρ1 := ρ1) (S1 := S2) ?_ ?_
  · rw [mAsgR_ev, mCons_ev, e1, Res.bind_ok, mCons_ev, e2]
    simp [hz, ← hρ1]
  refine seq_of (ρ1 := ρ2) (S1 := S3) ?_ ?_
  · rw [mAsgR_ev, mCons_ev, hmk]
    simp [hz, ← hρ2, ← hS3]
  refine seq_of (ρ1 := ρ3) (S1 := S4) e6 ?_
  refine seq_of (ρ1 := ρ4) (S1 := S4) ?_ ?_
  · have si := sortI_of ρ3 S4 (mVar 10) (n := d') (S1 := S4) (by rw [mVar_ev, h4.fd]; rfl) h4.dc hpt
    rw [mAsg_ev, mCB_ev, mCons_ev, mFrz_ev, si]
    simp [hρ4]
  refine seq_of (ρ1 := ρ6) (S1 := S4) ?_ ?_
  · have g8' := h5.bs
    generalize (srtC (pyrL b (srt P') 51)).map pairC = L at *
    simp [g5, g8', hpy, hρ6]
  refine seq_of (ρ1 := ρ6) (S1 := S4) e7 ?_
  unfold f_law_2
  refine mFor_of (S1 := S4) ?_ e8
  have r4 : range1 [.int 4] = some ((List.range 4).map fun k : Nat => PyData.int (k : Int)) := rfl
  generalize ((List.range 4).map fun k : Nat => PyData.int (k : Int)) = L4 at *
  simp [r4]
theorem loop_b1 : ∀ (ds : List D) (S : Store) (ρ : Pi.Env), L0 S ρ → ∃ ρ' S', forLoop (gN 2) b_law_1 ds ρ S = .nx ρ' S' ∧ L0 S' ρ'
  | [], S, ρ, h => ⟨ρ, S, rfl, h⟩
  | x :: ds, S, ρ, h => by
    obtain ⟨ρ1, S1, e1, h1⟩ := b1_law (h.set 2 (some (.d x)))
    obtain ⟨ρ2, S2, e2, h2⟩ := loop_b1 ds S1 ρ1 h1
    exact ⟨ρ2, S2, forN_of e1 e2, h2⟩
theorem cup_ok (ns : List Int) (hn : ns.length ≤ 63) : ∃ a b, m__law_cup [.d (.list (ns.map .int))] [] = .ok (.ref 0) [cup a b] := by
  have h0 : ∃ c : Int, 0 ≤ c ∧ ∃ h, ixD (.list (ns.map .int ++ [.int 0])) (.int 0) = some (.int h) ∧ absD [.int h] = some (.int c) := by
    cases ns with
    | nil => exact ⟨0, by omega, 0, rfl, rfl⟩
    | cons x r => exact ⟨if x < 0 then -x else x, by split <;> omega, x, by simp, rfl⟩
  obtain ⟨c, c0, h, h1, h2⟩ := h0
  have hadd : onlyL addD (.list (ns.map .int)) (.list [.int 0]) = some (ns.map .int ++ [.int 0]) := by
    unfold onlyL
    rw [addD_lst (by rw [hz]; simp; omega)]
  have hp : powD (.int 10) (.int 18) = some (.int (10 ^ 18)) := rfl
  have m1 : mulD (.int c) (.int 337) = some (.int (c * 337)) := mulD_int (mulOk_r (by omega))
  have m2 : modD (.int (c * 337 + 4051)) (.int 2077498225) = some (.int ((c * 337 + 4051) % 2077498225)) := modD_int (by omega)
  have m3 : divD (.int c) (.int 97) = some (.int (c / 97)) := divD_int (by omega) (by omega)
  unfold m__law_cup
  rw [fnR_ev]
  generalize ns.map PyData.int = L at *
  by_cases hc : (10 : Int) ^ 18 ≤ c
  · refine ⟨c / 97, (c * 337 + 4051) % 2077498225 + 179, ?_⟩
    simp only [startR, List.map_cons, List.map_nil, List.length_cons, List.length_nil]
    simp [hadd, h1, h2, hp, hc, m1, m2, m3, hz]
    simp at hc
    simp [hc, m3, m1, m2]
  · refine ⟨0, (c * 337 + 4051) % 2077498225 + 179, ?_⟩
    simp only [startR, List.map_cons, List.map_nil, List.length_cons, List.length_nil]
    simp [hadd, h1, h2, hp, hc, m1, m2, m3, hz]
    simp at hc
    have hc2 : ¬ (1000000000000000000 ≤ c) := by omega
    simp [hc2, m3, m1, m2]
end G94

set_option Elab.async false
set_option linter.all false
set_option maxRecDepth 100000
set_option exponentiation.threshold 10000
/-! L94ze: the law's end. -/
namespace G94
open PySem Pi
abbrev big : Int := 1000000000000000
theorem far_P : putA (putA ([] : List Pt) big 4) 0 3 = [(big, 4), (0, 3)] := by decide +kernel
theorem far_srt : srt [(big, 4), (0, 3)] = [(0, 3), (big, 4)] := by decide +kernel
theorem far_rng : rng 0 (big + 1) [(0, 3), (big, 4)] = [(0, 3), (big, 4)] := by decide +kernel
theorem far_cols : colsD [(0, 3), (big, 4)] (colL big 2 0) = [cellD 1 (0, 3) (0, 3) 3 3 3, cellD 1 (big, 4) (big, 4) 4 4 4] := rfl
theorem far_cell : optC (optP [(0, 3), (big, 4)]) = cellD 2 (0, 3) (big, 4) 3 4 7 := rfl
theorem fn_rt {n : Nat} {sb : SM} {rs : List R} {S S' : Store} {r : R} (h : sb (startR n rs) S = .rt r S') : fnR n sb rs S = .ok r S' := by
  rw [fnR_ev, h]; rfl
theorem law_ok (ns : List Int) (hn : ns.length ≤ 63) : ∃ S, m_law [.d (.list (ns.map .int))] [] = .ok (.d (.bool true)) S := by
  obtain ⟨a, b, hc⟩ := cup_ok ns hn
  generalize ns.map PyData.int = L at *
  have hE0 : L0 [G94.cup a b] ((startR 28 [.d (.list L)]).set 1 (some (.ref 0))) := ⟨by simp [startR], by simp [startR], a, b, rfl⟩
  obtain ⟨ρ1, S1, e1, h1⟩ := loop_b1 ((List.range 3).map fun k : Nat => PyData.int (k : Int)) _ _ hE0
  -- the base
  obtain ⟨x0, y0, hS0⟩ := h1.st
  obtain ⟨r, x1, y1, r0, r1, er⟩ := s_roll (arg := mOp2 powD (mD (.int 10)) (mD (.int 9))) (m := 1000000000) h1.cup hS0 (by simp [show powD (.int 10) (.int 9) = some (.int 1000000000) from rfl]) (by decide) (by decide)
  have h2 := h1.cupS x1 y1
  generalize hS2 : S1.set 0 (G94.cup x1 y1) = S2 at *
  have hmk := w_make S2 (b := 1 + r) (by omega) (mCons (mOp2 addD (mD (.int 1)) (mCall1 m__law_roll (mCons (mVar 1) (mCons (mOp2 powD (mD (.int 10)) (mD (.int 9))) mNil)))) mNil) ρ1 S1 (by
    rw [mCons_ev, mOp2_ev, mD_ev, Res.bind_ok, er]
    simp [addD])
  have v0 := VS.new S2 (1 + r)
  have hb : 0 < 1 + r ∧ 1 + r ≤ 1000000000 := by omega
  generalize hn' : S2.length = n at *
  generalize hS3 : S2 ++ [Cell.obj "View" (vfs (1 + r) (n + 1) (n + 2) 0), .dic [], .dih []] = S3 at *
  have v0' : VS S3 n (n + 1) (n + 2) (1 + r) [] [] 0 := v0
  obtain ⟨S4, C4, e4, v4, c4, k4⟩ := w_write hb Ps.nil (by simp) (t := big) (v := 4) (by decide) (by decide) v0' (CI.new (1 + r))
  have P4 : Ps (putA ([] : List Pt) big 4) := Ps.nil.put (by decide) (by decide)
  obtain ⟨S5, C5, e5, v5, c5, k5⟩ := w_write hb P4 (by decide +kernel) (t := 0) (v := 3) (by decide) (by decide) v4 c4
  have P5 : Ps (putA (putA ([] : List Pt) big 4) 0 3) := P4.put (by decide) (by decide)
  rw [far_P] at v5 c5 P5
  have e6 := w_span hb P5 (by decide) (lo := 0) (hi := big) (by decide) v5 c5
  have e7 := w_columns hb P5 (by decide) (lo := 0) (hi := big) (k := 2) (by decide) (by decide) (by decide) v5 c5
  rw [far_srt, far_rng, far_cell] at e6
  rw [far_srt, far_cols] at e7
  have e7 : m_View_columns [.ref n, .d (.int 0), .d (.int big), .d (.int 2)] S5 = _ := e7
  generalize spanN (1 + r) [(0, 3), (big, 4)] 0 big = sn at *
  have g3 : (ρ1.set 3 (some (R.ref n)))[3]? = some (some (.ref n)) := set_get h1.len (by decide)
  have hs := p_same (.tuple [cellD 2 (0, 3) (big, 4) 3 4 7, .tuple [cellD 1 (0, 3) (0, 3) 3 3 3, cellD 1 (big, 4) (big, 4) 4 4 4]]) S5 (by decide +kernel) (by decide +kernel)
  have pw : powD (.int 10) (.int 15) = some (.int big) := rfl
  refine ⟨S5, ?_⟩
  rw [m_law_eq]
  refine fn_rt ?_
  refine seq_of (ρ1 := (startR 28 [.d (.list L)]).set 1 (some (.ref 0))) (S1 := [G94.cup a b]) ?_ ?_
  · rw [mAsg_ev, mCallS_ev, mCons_ev]
    simp [startR, hc]
  refine seq_of (ρ1 := ρ1) (S1 := S1) ?_ ?_
  · unfold f_law_1
    refine mFor_of (S1 := [G94.cup a b]) ?_ e1
    have r3 : range1 [.int 3] = some ((List.range 3).map fun k : Nat => PyData.int (k : Int)) := rfl
    generalize ((List.range 3).map fun k : Nat => PyData.int (k : Int)) = L4 at *
    simp [r3]
  refine seq_of (ρ1 := ρ1.set 3 (some (.ref n))) (S1 := S3) ?_ ?_
  · rw [mAsg_ev, hmk]
    rfl
  generalize ρ1.set 3 (some (R.ref n)) = ρ2 at *
  refine seq_of (ρ1 := ρ2) (S1 := S4) ?_ ?_
  · have k := v0'.kWrite
    simp only [mExpr_ev, mMeth_ev, mVar_ev, g3, getV_some, Res.bind_ok, k, if_true, mCons_ev, mOp2_ev, mD_ev, rd_d, optB_some, pw, optR_some, mNil_ev, e4, Res.out_ok]
  refine seq_of (ρ1 := ρ2) (S1 := S5) ?_ ?_
  · have k := v4.kWrite
    simp only [mExpr_ev, mMeth_ev, mVar_ev, g3, getV_some, Res.bind_ok, k, if_true, mCons_ev, mD_ev, mNil_ev, e5, Res.out_ok]
  · have k1 := v5.kSpan
    have k2 := v5.kCols
    have hz4 : ∀ n : Nat, n < 10 → n ≤ sizeLine := fun n h => by rw [hz]; omega
    simp [g3, k1, k2, pw, e6, e7, hz, hs]
end G94

theorem PySem.Challenge.cw_serieskept_k94_whole_views_and_their_col_holds : PySem.Challenge.rw_serieskept_k94_whole_views_and_their_col.Holds := by
  exact G94.holds_of G94.law_ok
