import PyProof.Rows.All
import Wide.All
import OpenK.AllK
import Wide.FinOn
import PyProof.EqAt
import PyProof.EqKinds
import PyProof.TupleCall
import HandS.ForMost
import HandS.ForExc
import HandS.Flow
import HandS.TupAny
import HandS.Wide
import HandS.Deep
import HandS.Zip
import HandS.RevRange
import HandS.Style
import HandS.Defaults
import HandS.IsInst
import HandS.Conv
import HandS.TupMul
import PyProof.Rows.ListMulArg
import KE.SortData
import KE.KTupSum
import PyProof.WalkInts
import KE.GoesMore
import KE.GoesEnum
import HandS.Dict
import HandS.Small
import HandS.SetFor
import HandS.Strs
import HandS.DictTup
import HandS.ListItems
import HandS.Ends
import HandS.HeadEnd
import HandS.HeadHook1
import HandS.HeadHook2
import HandS.Exc
import HandS.WordsExc
import PyProof.ExcBaseAll.ValueError
import HandS.Head0
import HandS.Head1
import HandS.Head2
import PySem.Challenge.RW_serieskept_k95_whole_cells_joined_and_co
set_option Elab.async false
set_option linter.all false
set_option maxRecDepth 100000
/-! Pi0: a small shallow interpreter: plain data, live cells, combinators. -/
namespace Pi
open PySem

abbrev D := PyData
/-- a value at run time: plain data, a live cell of the store -/
inductive R where
  | d (x : D)
  | ref (i : Nat)
/-- a live cell -/
inductive Cell where
  | lst (xs : List D)
  | dic (kvs : List (D × R))
  | obj (c : String) (fs : List (Str × R))
  | gone
abbrev Store := List Cell
abbrev Env := List (Option R)
structure Xn where
  cls : String
  fs : List (Str × D)
inductive Res (α : Type) where
  | ok (a : α) (S : Store)
  | ex (x : Xn) (S : Store)
  | no
def Res.bind {α β : Type} (r : Res α) (f : α → Store → Res β) : Res β :=
  match r with
  | .ok a S => f a S
  | .ex x S => .ex x S
  | .no => .no
@[simp] theorem Res.bind_ok {α β : Type} (a : α) (S : Store) (f : α → Store → Res β) : (Res.ok a S).bind f = f a S := Eq.trans rfl rfl
@[simp] theorem Res.bind_ex {α β : Type} (x : Xn) (S : Store) (f : α → Store → Res β) : (Res.ex x S : Res α).bind f = .ex x S := Eq.trans rfl rfl
@[simp] theorem Res.bind_no {α β : Type} (f : α → Store → Res β) : (Res.no : Res α).bind f = .no := Eq.trans rfl rfl
def Res.opt {α : Type} (o : Option α) (S : Store) : Res α := match o with
  | some a => .ok a S
  | none => .no
abbrev M (α : Type) := Env → Store → Res α
abbrev EM := M R
abbrev TM := M Bool
abbrev AM := M (List R)
/-- an iterable's items -/
abbrev IM := M (List D)
/-- a target's store -/
abbrev GM := R → Env → Store → Option (Env × Store)
inductive Out where
  | nx (ρ : Env) (S : Store)
  | rt (r : R) (S : Store)
  | ex (x : Xn) (ρ : Env) (S : Store)
  | no
abbrev SM := Env → Store → Out

/-- what is read of a value now -/
def rd (S : Store) : R → Option D
  | .d x => some x
  | .ref i => match S[i]? with
    | some (.lst xs) => some (.list xs)
    | _ => none
def rdR : R → Option D
  | .d x => some x
  | .ref _ => none

/-! ### expressions -/
def mVar (i : Nat) : EM := fun ρ S => match ρ[i]? with
  | some (some r) => .ok r S
  | _ => .no
def mD (x : D) : EM := fun _ S => .ok (.d x) S
/-- by what is read of the values at the end -/
def mOp1 (g : D → Option D) (a : EM) : EM := fun ρ S => (a ρ S).bind fun x S1 => match rd S1 x with
  | some x' => match g x' with
    | some z => .ok (.d z) S1
    | none => .no
  | none => .no
def mOp2 (g : D → D → Option D) (a b : EM) : EM := fun ρ S => (a ρ S).bind fun x S1 => (b ρ S1).bind fun y S2 => match rd S2 x, rd S2 y with
  | some x', some y' => match g x' y' with
    | some z => .ok (.d z) S2
    | none => .no
  | _, _ => .no
def mChain (g g' : D → D → Option D) (a b c : EM) : EM := fun ρ S => (a ρ S).bind fun x S1 => (b ρ S1).bind fun y S2 => match rd S2 x, rd S2 y with
  | some x', some y' => match g x' y' with
    | some (.bool true) => (c ρ S2).bind fun z S3 => match rd S3 y, rd S3 z with
      | some y'', some z' => match g' y'' z' with
        | some k => .ok (.d k) S3
        | none => .no
      | _, _ => .no
    | some (.bool false) => .ok (.d (.bool false)) S2
    | _ => .no
  | _, _ => .no
/-- truth -/
def truD : D → Option Bool
  | .none => some false
  | .bool b => some b
  | .int i => some (i != 0)
  | .str x => if x.length ≤ sizeLine then some ((x.length : Int) != 0) else none
  | .list xs => some (!xs.isEmpty)
  | .tuple xs => some (!xs.isEmpty)
  | .dict _ => none
def mTruth (a : EM) : TM := fun ρ S => (a ρ S).bind fun x S1 => match rd S1 x with
  | some x' => Res.opt (truD x') S1
  | none => .no
def mNotT (a : TM) : TM := fun ρ S => (a ρ S).bind fun b S1 => .ok (!b) S1
def mAndT (a b : TM) : TM := fun ρ S => (a ρ S).bind fun c S1 => match c with
  | true => b ρ S1
  | false => .ok false S1
def mOrT (a b : TM) : TM := fun ρ S => (a ρ S).bind fun c S1 => match c with
  | true => .ok true S1
  | false => b ρ S1
def mIfE (c : TM) (a b : EM) : EM := fun ρ S => (c ρ S).bind fun k S1 => match k with
  | true => a ρ S1
  | false => b ρ S1
/-- and, or as values -/
def mAndV (a b : EM) : EM := fun ρ S => (a ρ S).bind fun x S1 => match rd S1 x with
  | some x' => match truD x' with
    | some true => b ρ S1
    | some false => .ok x S1
    | none => .no
  | none => .no
def mOrV (a b : EM) : EM := fun ρ S => (a ρ S).bind fun x S1 => match rd S1 x with
  | some x' => match truD x' with
    | some true => .ok x S1
    | some false => b ρ S1
    | none => .no
  | none => .no
def mNotV (a : EM) : EM := fun ρ S => (a ρ S).bind fun x S1 => match rd S1 x with
  | some x' => match truD x' with
    | some k => .ok (.d (.bool (!k))) S1
    | none => .no
  | none => .no
/-- arguments -/
def mNil : AM := fun _ S => .ok [] S
def mCons (a : EM) (r : AM) : AM := fun ρ S => (a ρ S).bind fun x S1 => (r ρ S1).bind fun xs S2 => .ok (x :: xs) S2
def allD : List R → Option (List D)
  | [] => some []
  | .d x :: r => match allD r with
    | some xs => some (x :: xs)
    | none => none
  | .ref _ :: _ => none
def rdAll (S : Store) : List R → Option (List D)
  | [] => some []
  | x :: r => match rd S x, rdAll S r with
    | some x', some xs => some (x' :: xs)
    | _, _ => none
def mTup (a : AM) : EM := fun ρ S => (a ρ S).bind fun xs S1 => match allD xs with
  | some ds => if ds.length ≤ sizeLine then .ok (.d (.tuple ds)) S1 else .no
  | none => .no
/-- a call of a builtin with values -/
def mCB (g : List D → Option D) (a : AM) : EM := fun ρ S => (a ρ S).bind fun xs S1 => match rdAll S1 xs with
  | some ds => match g ds with
    | some z => .ok (.d z) S1
    | none => .no
  | none => .no

/-! ### new lists -/
def mDisp (a : AM) : IM := fun ρ S => (a ρ S).bind fun xs S1 => match allD xs with
  | some ds => if ds.length ≤ sizeLine then .ok ds S1 else .no
  | none => .no
/-- a new list by a builtin's answer -/
def mCBL (g : List D → Option (List D)) (a : AM) : IM := fun ρ S => (a ρ S).bind fun xs S1 => match rdAll S1 xs with
  | some ds => Res.opt (g ds) S1
  | none => .no
def mOp2L (g : D → D → Option (List D)) (a b : EM) : IM := fun ρ S => (a ρ S).bind fun x S1 => (b ρ S1).bind fun y S2 => match rd S2 x, rd S2 y with
  | some x', some y' => Res.opt (g x' y') S2
  | _, _ => .no
/-- a new list as plain data; as a live cell -/
def mFrz (l : IM) : EM := fun ρ S => (l ρ S).bind fun ds S1 => .ok (.d (.list ds)) S1
def mNew (l : IM) : EM := fun ρ S => (l ρ S).bind fun ds S1 => .ok (.ref S1.length) (S1 ++ [.lst ds])

/-! ### comprehensions -/
def wipeR (ρ : Env) : List Nat → Env
  | [] => ρ
  | v :: vs => (wipeR ρ vs).set v none
def lcLoop (ρ : Env) (tg : GM) (cond : TM) (elt : EM) : List D → Store → Res (List D)
  | [], S => .ok [] S
  | d :: ds, S => match tg (.d d) ρ S with
    | some (ρ1, S1) => (cond ρ1 S1).bind fun k S2 => match k with
      | true => (elt ρ1 S2).bind fun r S3 => match rdR r with
        | some y => (lcLoop ρ tg cond elt ds S3).bind fun ys S4 => .ok (y :: ys) S4
        | none => .no
      | false => lcLoop ρ tg cond elt ds S2
    | none => .no
def noEx {α : Type} : Res α → Res α
  | .ok a S => .ok a S
  | _ => .no
def mLc (it : IM) (own : List Nat) (tg : GM) (cond : TM) (elt : EM) : IM := fun ρ S => (it ρ S).bind fun ds S1 => match noEx (lcLoop (wipeR ρ own) tg cond elt ds S1) with
  | .ok ys S2 => if ys.length ≤ sizeLine then .ok ys S2 else .no
  | _ => .no
def mYes : TM := fun _ S => .ok true S

/-! ### what is walked -/
def itD : D → Option (List D)
  | .list xs => some xs
  | .tuple xs => some xs
  | _ => none
/-- a tuple or a list that stays -/
def mItS (a : EM) : IM := fun ρ S => (a ρ S).bind fun x S1 => match rdR x with
  | some x' => Res.opt (itD x') S1
  | none => .no
def okR (i : Int) : Bool := decide (-(2 ^ 62) ≤ i) && decide (i < 2 ^ 62)
/-- lo, lo + 1, .. -/
def rangeD (lo : Int) : Nat → List D
  | 0 => []
  | n + 1 => .int lo :: rangeD (lo + 1) n
def range1 : List D → Option (List D)
  | [.int j] => if okR j then some (rangeD 0 j.toNat) else none
  | _ => none
def range2 : List D → Option (List D)
  | [.int i, .int j] => if okR i && okR j then some (rangeD i (j - i).toNat) else none
  | _ => none
def mItA (g : List D → Option (List D)) (a : AM) : IM := fun ρ S => (a ρ S).bind fun xs S1 => match allD xs with
  | some ds => Res.opt (g ds) S1
  | none => .no
def zipD : List D → List D → List D
  | x :: xs, y :: ys => .tuple [x, y] :: zipD xs ys
  | _, _ => []
def zip2 : List D → Option (List D)
  | [.list xs, .list ys] => some (zipD xs ys)
  | [.tuple xs, .tuple ys] => some (zipD xs ys)
  | _ => none
def enumD (i : Nat) : List D → List D
  | [] => []
  | x :: xs => .tuple [.int i, x] :: enumD (i + 1) xs
def enum1 : List D → Option (List D)
  | [a] => match itD a with
    | some xs => some (enumD 0 xs)
    | none => none
  | _ => none

/-! ### targets -/
def gN (i : Nat) : GM := fun r ρ S => some (ρ.set i (some r), S)
def gAll : List GM → List D → Env → Store → Option (Env × Store)
  | [], [], ρ, S => some (ρ, S)
  | g :: gs, d :: ds, ρ, S => match g (.d d) ρ S with
    | some (ρ1, S1) => gAll gs ds ρ1 S1
    | none => none
  | _, _, _, _ => none
def gT (gs : List GM) : GM := fun r ρ S => match r with
  | .d (.tuple ds) => gAll gs ds ρ S
  | .d (.list ds) => gAll gs ds ρ S
  | _ => none

/-! ### statements -/
def mSeq (a b : SM) : SM := fun ρ S => match a ρ S with
  | .nx ρ1 S1 => b ρ1 S1
  | o => o
def mSkip : SM := fun ρ S => .nx ρ S
def Res.out {α : Type} (r : Res α) (ρ : Env) (f : α → Store → Out) : Out := match r with
  | .ok a S => f a S
  | .ex x S => .ex x ρ S
  | .no => .no
@[simp] theorem Res.out_ok {α : Type} (a : α) (S : Store) (ρ : Env) (f : α → Store → Out) : (Res.ok a S).out ρ f = f a S := Eq.trans rfl rfl
@[simp] theorem Res.out_ex {α : Type} (x : Xn) (S : Store) (ρ : Env) (f : α → Store → Out) : (Res.ex x S : Res α).out ρ f = .ex x ρ S := Eq.trans rfl rfl
@[simp] theorem Res.out_no {α : Type} (ρ : Env) (f : α → Store → Out) : (Res.no : Res α).out ρ f = .no := Eq.trans rfl rfl
def mExpr (a : EM) : SM := fun ρ S => (a ρ S).out ρ fun _ S1 => .nx ρ S1
def mRet (a : EM) : SM := fun ρ S => (a ρ S).out ρ fun r S1 => .rt r S1
def mRetN : SM := fun _ S => .rt (.d .none) S
def mIf (c : TM) (a b : SM) : SM := fun ρ S => (c ρ S).out ρ fun k S1 => match k with
  | true => a ρ S1
  | false => b ρ S1
def mAsg (g : GM) (a : EM) : SM := fun ρ S => (a ρ S).out ρ fun r S1 => match g r ρ S1 with
  | some (ρ2, S2) => .nx ρ2 S2
  | none => .no
/-- a, b = x, y: local names -/
def mPar (is : List Nat) (a : AM) : SM := fun ρ S => (a ρ S).out ρ fun rs S1 => if rs.length = is.length then .nx ((is.zip rs).foldl (fun ρ p => ρ.set p.1 (some p.2)) ρ) S1 else .no
def forLoop (g : GM) (b : SM) : List D → Env → Store → Out
  | [], ρ, S => .nx ρ S
  | d :: ds, ρ, S => match g (.d d) ρ S with
    | some (ρ1, S1) => match b ρ1 S1 with
      | .nx ρ2 S2 => forLoop g b ds ρ2 S2
      | o => o
    | none => .no
def mFor (it : IM) (g : GM) (b : SM) : SM := fun ρ S => (it ρ S).out ρ fun ds S1 => forLoop g b ds ρ S1
def whileLoop (c : TM) (b : SM) : Nat → Env → Store → Out
  | 0, _, _ => .no
  | n + 1, ρ, S => (c ρ S).out ρ fun k S1 => match k with
    | true => match b ρ S1 with
      | .nx ρ2 S2 => whileLoop c b n ρ2 S2
      | o => o
    | false => .nx ρ S1
def mWhile (n : Nat) (c : TM) (b : SM) : SM := whileLoop c b n

/-! ### defs -/
abbrev Fn := List R → Store → Res R
def startR (n : Nat) (rs : List R) : Env := rs.map some ++ List.replicate (n - rs.length) none
/-- a def by its body: n names -/
def fnR (n : Nat) (b : SM) : Fn := fun rs S => match b (startR n rs) S with
  | .nx _ S' => .ok (.d .none) S'
  | .rt r S' => .ok r S'
  | .ex x _ S' => .ex x S'
  | .no => .no
/-- a call, by plain data alone: the callee's cells are its own -/
def runP (F : Fn) (ds : List D) (S : Store) : Res R := match F (ds.map .d) [] with
  | .ok (.d z) _ => .ok (.d z) S
  | .ex x _ => .ex x S
  | _ => .no
def mCallP (F : Fn) (a : AM) : EM := fun ρ S => (a ρ S).bind fun xs S1 => match allD xs with
  | some ds => runP F ds S1
  | none => .no
/-- a call with all cells -/
def mCallS (F : Fn) (a : AM) : EM := fun ρ S => (a ρ S).bind fun xs S1 => F xs S1
/-- a call whose first argument alone is a cell (a plain list); what comes back is plain data -/
def run1 (F : Fn) (i : Nat) (ds : List D) (S : Store) : Res R := match S[i]? with
  | some (.lst xs) => match F (.ref 0 :: ds.map .d) [.lst xs] with
    | .ok (.d z) (.lst ys :: _) => .ok (.d z) (S.set i (.lst ys))
    | _ => .no
  | _ => .no
def mCall1 (F : Fn) (a : AM) : EM := fun ρ S => (a ρ S).bind fun xs S1 => match xs with
  | .ref i :: r => match allD r with
    | some ds => run1 F i ds S1
    | none => .no
  | _ => .no
def mRaise (c : String) : SM := fun ρ S => .ex ⟨c, []⟩ ρ S
end Pi

set_option Elab.async false
set_option linter.all false
set_option maxRecDepth 100000
/-! Pi1: how data, cells, environments lie in the abstract heap; the judgements. -/
namespace Pi
open PySem PySem.Spec PyProof.Rows L2

/-- what stays for ever -/
def stable : HO → Bool
  | .tup _ => true
  | .frz _ _ => true
  | _ => false
/-- a list that is never written any more -/
def FzL (K : PySem.W.Frag) (H : Hp) (a : Addr) (xs : List V) : Prop :=
  (∃ o, H a = some (.frz o (.lst xs))) ∨
    ∃ (o : Obj) (its : Array Value) (n : Nat), K.lookup a = some o ∧ o.cls = .type "list" ∧ o.dict = none ∧ o.data = .seq its n ∧ its.size ≤ sizeLine ∧ Vals xs its.toList
theorem FzL.sq {K : PySem.W.Frag} {H : Hp} {a : Addr} {xs : List V} (h : FzL K H a xs) : SqL K H a xs := by
  rcases h with ⟨o, h⟩ | h
  · exact .inl (.inr ⟨o, h⟩)
  · exact .inr h
mutual
inductive Df (K : PySem.W.Frag) (H : Hp) : V → PyData → Prop
  | non : Df K H .non .none
  | bl (b : Bool) : Df K H (.bl b) (.bool b)
  | int (i : Int) : Df K H (.int i) (.int i)
  | str (x : Str) : Df K H (.str x) (.str x)
  | lst {a : Addr} {xs : List V} {ds : List PyData} : FzL K H a xs → DfAll K H xs ds → Df K H (.ref a) (.list ds)
  | tup {a : Addr} {xs : List V} {ds : List PyData} : SqT K H a xs → DfAll K H xs ds → Df K H (.ref a) (.tuple ds)
inductive DfAll (K : PySem.W.Frag) (H : Hp) : List V → List PyData → Prop
  | nil : DfAll K H [] []
  | cons {v : V} {vs : List V} {d : PyData} {ds : List PyData} : Df K H v d → DfAll K H vs ds → DfAll K H (v :: vs) (d :: ds)
end
/-- .. or a live list, as it is now -/
inductive Dn (K : PySem.W.Frag) (H : Hp) : V → PyData → Prop
  | of {v : V} {d : PyData} : Df K H v d → Dn K H v d
  | lst {a : Addr} {xs : List V} {ds : List PyData} : H a = some (.lst xs) → DfAll K H xs ds → Dn K H (.ref a) (.list ds)

/-- H' has all that stays of H -/
def Stab (H H' : Hp) : Prop := ∀ a o, stable o = true → H a = some o → H' a = some o
theorem Stab.sqT {K : PySem.W.Frag} {H H' : Hp} {a : Addr} {xs : List V} (e : Stab H H') (h : SqT K H a xs) : SqT K H' a xs := by
  rcases h with (h | ⟨o, h⟩) | h
  · exact .inl (.inl (e _ _ rfl h))
  · exact .inl (.inr ⟨o, e _ _ rfl h⟩)
  · exact .inr h
theorem Stab.fzL {K : PySem.W.Frag} {H H' : Hp} {a : Addr} {xs : List V} (e : Stab H H') (h : FzL K H a xs) : FzL K H' a xs := by
  rcases h with ⟨o, h⟩ | h
  · exact .inl ⟨o, e _ _ rfl h⟩
  · exact .inr h
mutual
theorem Df.mono {K : PySem.W.Frag} {H H' : Hp} (e : Stab H H') : ∀ {v : V} {d : PyData}, Df K H v d → Df K H' v d
  | _, _, .non => .non
  | _, _, .bl b => .bl b
  | _, _, .int i => .int i
  | _, _, .str x => .str x
  | _, _, .lst h t => .lst (e.fzL h) (DfAll.mono e t)
  | _, _, .tup h t => .tup (e.sqT h) (DfAll.mono e t)
theorem DfAll.mono {K : PySem.W.Frag} {H H' : Hp} (e : Stab H H') : ∀ {vs : List V} {ds : List PyData}, DfAll K H vs ds → DfAll K H' vs ds
  | _, _, .nil => .nil
  | _, _, .cons h t => .cons (Df.mono e h) (DfAll.mono e t)
end
theorem DfAll.length {K : PySem.W.Frag} {H : Hp} : ∀ {vs : List V} {ds : List PyData}, DfAll K H vs ds → vs.length = ds.length
  | _, _, .nil => rfl
  | _, _, .cons _ t => by rw [List.length_cons, List.length_cons, t.length]
theorem DfAll.append {K : PySem.W.Frag} {H : Hp} : ∀ {vs ws : List V} {ds es : List PyData}, DfAll K H vs ds → DfAll K H ws es → DfAll K H (vs ++ ws) (ds ++ es)
  | _, _, _, _, .nil, s => s
  | _, _, _, _, .cons h t, s => .cons h (DfAll.append t s)
theorem DfAll.take {K : PySem.W.Frag} {H : Hp} : ∀ {vs : List V} {ds : List PyData} (n : Nat), DfAll K H vs ds → DfAll K H (vs.take n) (ds.take n)
  | _, _, 0, _ => .nil
  | _, _, _ + 1, .nil => .nil
  | _, _, n + 1, .cons h t => .cons h (DfAll.take n t)
theorem DfAll.drop {K : PySem.W.Frag} {H : Hp} : ∀ {vs : List V} {ds : List PyData} (n : Nat), DfAll K H vs ds → DfAll K H (vs.drop n) (ds.drop n)
  | _, _, 0, s => s
  | _, _, _ + 1, .nil => .nil
  | _, _, n + 1, .cons _ t => DfAll.drop n t
theorem DfAll.get {K : PySem.W.Frag} {H : Hp} : ∀ {vs : List V} {ds : List PyData} {i : Nat} {d : PyData}, DfAll K H vs ds → ds[i]? = some d → ∃ v, vs[i]? = some v ∧ Df K H v d
  | _, _, _, _, .nil, e => by simp at e
  | _, _, 0, _, .cons h _, e => by simp at e; subst e; exact ⟨_, rfl, h⟩
  | _, _, i + 1, d, .cons _ t, e => by
    obtain ⟨v, h1, h2⟩ := DfAll.get (i := i) (d := d) t (by simpa using e)
    exact ⟨v, by simpa using h1, h2⟩
theorem DfAll.set {K : PySem.W.Frag} {H : Hp} {v : V} {d : PyData} (h : Df K H v d) : ∀ {vs : List V} {ds : List PyData} (i : Nat), DfAll K H vs ds → DfAll K H (vs.set i v) (ds.set i d)
  | _, _, _, .nil => .nil
  | _, _, 0, .cons _ t => .cons h t
  | _, _, i + 1, .cons q t => .cons q (DfAll.set h i t)
mutual
theorem Df.dp {K : PySem.W.Frag} {H : Hp} : ∀ {v : V} {d : PyData}, Df K H v d → Dp K H v d
  | _, _, .non => .non
  | _, _, .bl b => .bl b
  | _, _, .int i => .int i
  | _, _, .str x => .str x
  | _, _, .lst h t => .lst h.sq (DfAll.dp t)
  | _, _, .tup h t => .tup h (DfAll.dp t)
theorem DfAll.dp {K : PySem.W.Frag} {H : Hp} : ∀ {vs : List V} {ds : List PyData}, DfAll K H vs ds → DpAll K H vs ds
  | _, _, .nil => .nil
  | _, _, .cons h t => .cons (Df.dp h) (DfAll.dp t)
end
theorem Dn.dp {K : PySem.W.Frag} {H : Hp} {v : V} {d : PyData} (h : Dn K H v d) : Dp K H v d := by
  cases h with
  | of h => exact h.dp
  | lst h t => exact .lst (.inl (.inl h)) t.dp
section
variable {K : PySem.W.Frag} {H : Hp} {v : V}
theorem Dn.int_eq {i : Int} (h : Dn K H v (.int i)) : v = .int i := by cases h with | of h => cases h; rfl
theorem Dn.str_eq {x : Str} (h : Dn K H v (.str x)) : v = .str x := by cases h with | of h => cases h; rfl
theorem Dn.bool_eq {b : Bool} (h : Dn K H v (.bool b)) : v = .bl b := by cases h with | of h => cases h; rfl
theorem Dn.none_eq (h : Dn K H v .none) : v = .non := by cases h with | of h => cases h; rfl
theorem Dn.list_at {ds : List PyData} (h : Dn K H v (.list ds)) : ∃ a xs, v = .ref a ∧ SqL K H a xs ∧ DfAll K H xs ds := by
  cases h with
  | of h => cases h with | lst h t => exact ⟨_, _, rfl, h.sq, t⟩
  | lst h t => exact ⟨_, _, rfl, .inl (.inl h), t⟩
theorem Dn.tup_at {ds : List PyData} (h : Dn K H v (.tuple ds)) : ∃ a xs, v = .ref a ∧ SqT K H a xs ∧ DfAll K H xs ds := by
  cases h with
  | of h => cases h with | tup h t => exact ⟨_, _, rfl, h, t⟩
theorem Df.list_at {ds : List PyData} (h : Df K H v (.list ds)) : ∃ a xs, v = .ref a ∧ FzL K H a xs ∧ DfAll K H xs ds := by
  cases h with | lst h t => exact ⟨_, _, rfl, h, t⟩
theorem Df.tup_at {ds : List PyData} (h : Df K H v (.tuple ds)) : ∃ a xs, v = .ref a ∧ SqT K H a xs ∧ DfAll K H xs ds := by
  cases h with | tup h t => exact ⟨_, _, rfl, h, t⟩
end

/-! ### the live cells -/
def RelR (K : PySem.W.Frag) (φ : List Addr) (H : Hp) (v : V) : R → Prop
  | .d x => Df K H v x
  | .ref i => ∃ a, φ[i]? = some a ∧ v = .ref a
abbrev RelRs (K : PySem.W.Frag) (φ : List Addr) (H : Hp) : List V → List R → Prop := Paired (RelR K φ H)
def keyD : L2.Key → D
  | .inl i => .int i
  | .inr x => .str x
abbrev RelKv (K : PySem.W.Frag) (φ : List Addr) (H : Hp) : List (L2.Key × V) → List (D × R) → Prop := Paired fun p q => keyD p.1 = q.1 ∧ RelR K φ H p.2 q.2
def CellOk (K : PySem.W.Frag) (φ : List Addr) (H : Hp) (a : Addr) : Cell → Prop
  | .lst xs => ∃ vs, H a = some (.lst vs) ∧ DfAll K H vs xs
  | .dic kvs => ∃ kv, H a = some (.dK kv) ∧ RelKv K φ H kv kvs
  | .obj _ _ => False
  | .gone => True
theorem RelR.mono {K : PySem.W.Frag} {φ φ' : List Addr} {H H' : Hp} (pre : φ <+: φ') (st : Stab H H') {v : V} {r : R} (h : RelR K φ H v r) : RelR K φ' H' v r := by
  cases r with
  | d x => exact Df.mono st h
  | ref i =>
    obtain ⟨a, h1, h2⟩ := h
    obtain ⟨ψ, rfl⟩ := pre
    exact ⟨a, by rw [List.getElem?_append_left (List.getElem?_eq_some_iff.mp h1).1]; exact h1, h2⟩
theorem RelKv.mono {K : PySem.W.Frag} {φ φ' : List Addr} {H H' : Hp} (pre : φ <+: φ') (st : Stab H H') : ∀ {kv : List (L2.Key × V)} {kvs : List (D × R)}, RelKv K φ H kv kvs → RelKv K φ' H' kv kvs
  | _, _, .nil => .nil
  | _, _, .cons h t => .cons ⟨h.1, RelR.mono pre st h.2⟩ (RelKv.mono pre st t)
theorem CellOk.mono {K : PySem.W.Frag} {φ φ' : List Addr} {H H' : Hp} {a : Addr} {c : Cell} (pre : φ <+: φ') (st : Stab H H') (k : ∀ o, H a = some o → H' a = some o) (h : CellOk K φ H a c) : CellOk K φ' H' a c := by
  cases c with
  | lst xs => obtain ⟨vs, q1, q2⟩ := h; exact ⟨vs, k _ q1, DfAll.mono st q2⟩
  | dic kvs => obtain ⟨kv, q1, q2⟩ := h; exact ⟨kv, k _ q1, RelKv.mono pre st q2⟩
  | obj _ _ => exact h
  | gone => exact trivial
structure StOk (K : PySem.W.Frag) (φ : List Addr) (H : Hp) (S : Store) : Prop where
  len : φ.length = S.length
  nd : φ.Nodup
  there : ∀ a ∈ φ, ∃ o, H a = some o
  cell : ∀ (i : Nat) (a : Addr) (c : Cell), φ[i]? = some a → S[i]? = some c → CellOk K φ H a c
structure EnvOk (K : PySem.W.Frag) (φ : List Addr) (H : Hp) (σ : L2.St) (ρ : Env) : Prop where
  len : σ.length = ρ.length
  at_ : ∀ (i : Nat) (r : R), ρ[i]? = some (some r) → ∃ v, σ[i]? = some (some v) ∧ RelR K φ H v r
/-- later: more cells; what stays, and what is no cell of ours, stands -/
structure Grow (φ : List Addr) (H : Hp) (φ' : List Addr) (H' : Hp) : Prop where
  pre : φ <+: φ'
  keep : ∀ a o, H a = some o → (stable o = true ∨ a ∉ φ) → H' a = some o
  new : ∀ a ∈ φ', a ∈ φ ∨ H a = none
theorem Grow.refl (φ : List Addr) (H : Hp) : Grow φ H φ H := ⟨List.prefix_refl _, fun _ _ h _ => h, fun _ h => .inl h⟩
theorem Grow.trans {φ φ1 φ2 : List Addr} {H H1 H2 : Hp} (a : Grow φ H φ1 H1) (b : Grow φ1 H1 φ2 H2) : Grow φ H φ2 H2 where
  pre := a.pre.trans b.pre
  keep := fun c o h q => by
    have h1 := a.keep c o h q
    refine b.keep c o h1 ?_
    rcases q with q | q
    · exact .inl q
    · refine .inr fun hc => ?_
      rcases a.new c hc with z | z
      · exact q z
      · rw [h] at z; cases z
  new := fun c hc => by
    rcases b.new c hc with z | z
    · exact a.new c z
    · cases q : H c with
      | none => exact .inr rfl
      | some o =>
        by_cases hm : c ∈ φ
        · exact .inl hm
        · rw [a.keep c o q (.inr hm)] at z; cases z
theorem Grow.stab {φ φ' : List Addr} {H H' : Hp} (g : Grow φ H φ' H') : Stab H H' := fun a o s h => g.keep a o h (.inl s)
theorem Grow.none {φ φ' : List Addr} {H H' : Hp} (g : Grow φ H φ' H') {p : Addr} (n : H' p = Option.none) (hp : p ∉ φ') : H p = Option.none := by
  cases q : H p with
  | none => rfl
  | some o => rw [g.keep p o q (.inr fun h => hp (g.pre.subset h))] at n; cases n
theorem Grow.same {φ : List Addr} {H H' : Hp} (s : Same H H') : Grow φ H φ H' := ⟨List.prefix_refl _, fun a o h _ => s a o h, fun _ h => .inl h⟩
theorem Grow.at_ {φ φ' : List Addr} {H H' : Hp} (g : Grow φ H φ' H') {i : Nat} {a : Addr} (h : φ[i]? = some a) : φ'[i]? = some a := by
  obtain ⟨ψ, rfl⟩ := g.pre
  rw [List.getElem?_append_left (List.getElem?_eq_some_iff.mp h).1]
  exact h
theorem Stab.trans {H H1 H2 : Hp} (a : Stab H H1) (b : Stab H1 H2) : Stab H H2 := fun c o s h => b c o s (a c o s h)
theorem Same.stab {H H' : Hp} (s : Same H H') : Stab H H' := fun a o _ h => s a o h
theorem RelR.grow {K : PySem.W.Frag} {φ φ' : List Addr} {H H' : Hp} (g : Grow φ H φ' H') {v : V} {r : R} (h : RelR K φ H v r) : RelR K φ' H' v r := by
  cases r with
  | d x => exact Df.mono g.stab h
  | ref i => obtain ⟨a, h1, h2⟩ := h; exact ⟨a, g.at_ h1, h2⟩
theorem RelRs.grow {K : PySem.W.Frag} {φ φ' : List Addr} {H H' : Hp} (g : Grow φ H φ' H') : ∀ {vs : List V} {rs : List R}, RelRs K φ H vs rs → RelRs K φ' H' vs rs
  | _, _, .nil => .nil
  | _, _, .cons h t => .cons (RelR.grow g h) (RelRs.grow g t)
theorem EnvOk.grow {K : PySem.W.Frag} {φ φ' : List Addr} {H H' : Hp} {σ : L2.St} {ρ : Env} (g : Grow φ H φ' H') (h : EnvOk K φ H σ ρ) : EnvOk K φ' H' σ ρ :=
  ⟨h.len, fun i r e => let ⟨v, e1, q⟩ := h.at_ i r e; ⟨v, e1, q.grow g⟩⟩
theorem StOk.same {K : PySem.W.Frag} {φ : List Addr} {H H' : Hp} {S : Store} (s : Same H H') (h : StOk K φ H S) : StOk K φ H' S where
  len := h.len
  nd := h.nd
  there := fun a ha => let ⟨o, e⟩ := h.there a ha; ⟨o, s a o e⟩
  cell := fun i a c e1 e2 => (h.cell i a c e1 e2).mono (List.prefix_refl _) (Same.stab s) fun o e => s a o e
/-- cells stand where all of them, and what stays, stand -/
theorem StOk.keep {K : PySem.W.Frag} {φ : List Addr} {H H' : Hp} {S : Store} (st : Stab H H') (s : ∀ a ∈ φ, ∀ o, H a = some o → H' a = some o) (h : StOk K φ H S) : StOk K φ H' S where
  len := h.len
  nd := h.nd
  there := fun a ha => let ⟨o, e⟩ := h.there a ha; ⟨o, s a ha o e⟩
  cell := fun i a c e1 e2 => (h.cell i a c e1 e2).mono (List.prefix_refl _) st fun o e => s a (List.mem_of_getElem? e1) o e
theorem StOk.free {K : PySem.W.Frag} {φ : List Addr} {H : Hp} {S : Store} (h : StOk K φ H S) {p : Addr} (n : H p = Option.none) : p ∉ φ := fun hp => by
  obtain ⟨o, e⟩ := h.there p hp
  rw [n] at e; cases e
theorem StOk.nil {K : PySem.W.Frag} {H : Hp} : StOk K [] H [] := ⟨rfl, List.nodup_nil, (fun _ h => nomatch h), fun i a c e => by simp at e⟩
/-- what is read now -/
theorem RelR.rd {K : PySem.W.Frag} {φ : List Addr} {H : Hp} {S : Store} (so : StOk K φ H S) {v : V} {r : R} {x : D} (h : RelR K φ H v r) (e : rd S r = some x) : Dn K H v x := by
  cases r with
  | d y => cases e; exact .of h
  | ref i =>
    obtain ⟨a, h1, rfl⟩ := h
    unfold Pi.rd at e
    cases q : S[i]? with
    | none => simp [q] at e
    | some c =>
      simp only [q] at e
      cases c with
      | lst xs =>
        cases e
        obtain ⟨vs, q1, q2⟩ := so.cell i a _ h1 q
        exact .lst q1 q2
      | _ => cases e
theorem RelR.plain {K : PySem.W.Frag} {φ : List Addr} {H : Hp} {v : V} {r : R} {x : D} (h : RelR K φ H v r) (e : rdR r = some x) : Df K H v x := by
  cases r with
  | d y => cases e; exact h
  | ref i => cases e

/-- an exception, as it lies -/
def XnOk (mg : Str → Option Value) (K : PySem.W.Frag) (H : Hp) (x : Xn) (cls : Value) (dA : Option Addr) : Prop :=
  ∃ C, mg (Str.ofString x.cls) = some (.ref C) ∧ cls = .ref C ∧
    (x.fs = [] ∨ ∃ d fv, dA = some d ∧ H d = some (.xd fv) ∧ Paired (fun (p : Str × V) (q : Str × D) => p.1 = q.1 ∧ Df K H p.2 q.2) fv x.fs)

/-- what is wanted of an answer -/
def EndR {α : Type} (K : PySem.W.Frag) (mg : Str → Option Value) (W : WX) (φ : List Addr) (H : Hp) (σ : L2.St) (P : α → List Addr → Store → Hp → Prop) : Res α → Prop
  | .ok a S' => ∀ φ' H', Grow φ H φ' H' → StOk K φ' H' S' → P a φ' S' H'
  | .ex x S' => ∀ φ' H' cls dA, Grow φ H φ' H' → StOk K φ' H' S' → XnOk mg K H' x cls dA → W cls dA σ H'
  | .no => False
section
variable {α β : Type} {K : PySem.W.Frag} {mg : Str → Option Value} {W : WX} {φ : List Addr} {H : Hp} {σ : L2.St}
theorem EndR.imp {P P' : α → List Addr → Store → Hp → Prop} {r : Res α} (h : EndR K mg W φ H σ P r) (f : ∀ a φ' S' H', r = .ok a S' → Grow φ H φ' H' → StOk K φ' H' S' → P a φ' S' H' → P' a φ' S' H') : EndR K mg W φ H σ P' r := by
  cases r with
  | ok a S' => exact fun φ' H' g so => f a φ' S' H' rfl g so (h φ' H' g so)
  | ex x S' => exact h
  | no => exact h
theorem EndR.bind {P : β → List Addr → Store → Hp → Prop} {r : Res α} {f : α → Store → Res β} (h : EndR K mg W φ H σ P (r.bind f)) :
    EndR K mg W φ H σ (fun a φ1 S1 H1 => EndR K mg W φ1 H1 σ P (f a S1)) r := by
  cases r with
  | ok a S1 =>
    intro φ1 H1 g1 so1
    have h' : EndR K mg W φ H σ P (f a S1) := h
    show EndR K mg W φ1 H1 σ P (f a S1)
    cases q : f a S1 with
    | ok b S2 => rw [q] at h'; exact fun φ2 H2 g2 so2 => h' φ2 H2 (g1.trans g2) so2
    | ex x S2 => rw [q] at h'; exact fun φ2 H2 cls dA g2 so2 => h' φ2 H2 cls dA (g1.trans g2) so2
    | no => rw [q] at h'; exact h'
  | ex x S1 => exact h
  | no => exact h
/-- the same, asked later -/
theorem EndR.later {φ1 : List Addr} {H1 : Hp} {P : α → List Addr → Store → Hp → Prop} {r : Res α} (g1 : Grow φ H φ1 H1) (h : EndR K mg W φ H σ P r) : EndR K mg W φ1 H1 σ P r := by
  cases r with
  | ok b S2 => exact fun φ2 H2 g2 so2 => h φ2 H2 (g1.trans g2) so2
  | ex x S2 => exact fun φ2 H2 cls dA g2 so2 => h φ2 H2 cls dA (g1.trans g2) so2
  | no => exact h
/-- an answer that is there: now -/
theorem EndR.now {P : α → List Addr → Store → Hp → Prop} {a : α} {S : Store} (so : StOk K φ H S) (h : EndR K mg W φ H σ P (.ok a S)) : P a φ S H := h φ H (Grow.refl φ H) so
end

/-! ### readings and judgements -/
section
variable (K : PySem.W.Frag) (mg : Str → Option Value) (W : WX)
def rdE (m : EM) : TE := fun σ H Q => ∃ φ ρ S, EnvOk K φ H σ ρ ∧ StOk K φ H S ∧ EndR K mg W φ H σ (fun r φ' _ H' => ∀ v, RelR K φ' H' v r → Q v H') (m ρ S)
def rdT (m : TM) : TT := fun σ H Q => ∃ φ ρ S, EnvOk K φ H σ ρ ∧ StOk K φ H S ∧ EndR K mg W φ H σ (fun b _ _ H' => Q b H') (m ρ S)
def rdA (m : AM) : TA := fun σ H Q => ∃ φ ρ S, EnvOk K φ H σ ρ ∧ StOk K φ H S ∧ EndR K mg W φ H σ (fun rs φ' _ H' => ∀ vs, RelRs K φ' H' vs rs → Q vs H') (m ρ S)
/-- a new list -/
def rdN (m : IM) : TE := fun σ H Q => ∃ φ ρ S, EnvOk K φ H σ ρ ∧ StOk K φ H S ∧
  EndR K mg W φ H σ (fun ds φ' _ H' => ∀ p vs, H p = none → p ∉ φ' → H' p = some (.lst vs) → DfAll K H' vs ds → Q (.ref p) H') (m ρ S)
/-- what is wanted of a statement's answer -/
def EndS (φ : List Addr) (H : Hp) (D : Ends) : Out → Prop
  | .nx ρ' S' => ∀ φ' σ' H', Grow φ H φ' H' → StOk K φ' H' S' → EnvOk K φ' H' σ' ρ' → D.nx σ' H'
  | .rt r S' => ∀ φ' v H', Grow φ H φ' H' → StOk K φ' H' S' → RelR K φ' H' v r → D.rt v H'
  | .ex x ρ' S' => ∀ φ' σ' H' cls dA, Grow φ H φ' H' → StOk K φ' H' S' → EnvOk K φ' H' σ' ρ' → XnOk mg K H' x cls dA → W cls dA σ' H'
  | .no => False
def rdS (m : SM) : TS := fun D σ H => ∃ φ ρ S, EnvOk K φ H σ ρ ∧ StOk K φ H S ∧ EndS K mg W φ H D (m ρ S)
end
abbrev IE (X : Cx) (W : WX) (e : Expr) (m : EM) : Prop := PE X e (rdE X.K X.mg W m)
abbrev IT (X : Cx) (W : WX) (e : Expr) (m : TM) : Prop := PT X e (rdT X.K X.mg W m)
abbrev IA (X : Cx) (W : WX) (es : List Expr) (m : AM) : Prop := PA X es (rdA X.K X.mg W m)
abbrev IN (X : Cx) (W : WX) (e : Expr) (m : IM) : Prop := PE X e (rdN X.K X.mg W m)
abbrev IS (X : Cx) (W : WX) (st : Stmt) (m : SM) : Prop := PS X st (rdS X.K X.mg W m)
abbrev ISs (X : Cx) (W : WX) (st : List Stmt) (m : SM) : Prop := PSs X st (rdS X.K X.mg W m)

section
variable {X : Cx}
theorem PE.imp {e : Expr} {t t' : TE} (h : PE X e t) (f : ∀ σ H Q, t' σ H Q → t σ H Q) : PE X e t' := ⟨fun pins s σ H Q I q => h.run pins s σ H Q I (f σ H Q q)⟩
theorem PT.imp {e : Expr} {t t' : TT} (h : PT X e t) (f : ∀ σ H Q, t' σ H Q → t σ H Q) : PT X e t' := ⟨fun pins s σ H Q I q => h.run pins s σ H Q I (f σ H Q q)⟩
theorem PW.imp {e : Expr} {t t' : TT} (h : PW X e t) (f : ∀ σ H Q, t' σ H Q → t σ H Q) : PW X e t' := ⟨fun wh pins s σ H Q I q => h.run wh pins s σ H Q I (f σ H Q q)⟩
theorem PA.imp {es : List Expr} {t t' : TA} (h : PA X es t) (f : ∀ σ H Q, t' σ H Q → t σ H Q) : PA X es t' := ⟨fun pos pins s σ H Q I q => h.run pos pins s σ H Q I (f σ H Q q)⟩
theorem PS.imp {st : Stmt} {t t' : TS} (h : PS X st t) (f : ∀ D σ H, t' D σ H → t D σ H) : PS X st t' := ⟨fun pins s σ H D I q => h.run pins s σ H D I (f D σ H q)⟩
theorem PSs.imp {st : List Stmt} {t t' : TS} (h : PSs X st t) (f : ∀ D σ H, t' D σ H → t D σ H) : PSs X st t' := ⟨fun pins s σ H D I q => h.run pins s σ H D I (f D σ H q)⟩
end
end Pi

set_option Elab.async false
set_option linter.all false
set_option maxRecDepth 100000
/-! Pi2: the rules of expressions. -/
namespace Pi
open PySem PySem.Spec PyProof.Rows L2

def mB (m : EM) : TM := fun ρ S => (m ρ S).bind fun r S1 => match r with
  | .d (.bool k) => .ok k S1
  | _ => .no
def opRd (K : PySem.W.Frag) (g : D → D → Option D) : R2 := fun x y H Q => ∃ d1 d2 z, Dn K H x d1 ∧ Dn K H y d2 ∧ g d1 d2 = some z ∧ ∀ v H', L2.Same H H' → Df K H' v z → Q v H'
def opRdL (K : PySem.W.Frag) (g : D → D → Option (List D)) : R2 := fun x y H Q => ∃ d1 d2 zs, Dn K H x d1 ∧ Dn K H y d2 ∧ g d1 d2 = some zs ∧ ∀ p vs H', L2.Same H H' → H p = none → H' p = some (.lst vs) → DfAll K H' vs zs → Q (.ref p) H'
abbrev DnAll (K : PySem.W.Frag) (H : Hp) : List V → List D → Prop := Paired (Dn K H)
def cbRd (K : PySem.W.Frag) (g : List D → Option D) : List V → Hp → VK → Prop := fun vs H Q => ∃ ds z, DnAll K H vs ds ∧ g ds = some z ∧ ∀ v H', L2.Same H H' → Df K H' v z → Q v H'
def cbRdL (K : PySem.W.Frag) (g : List D → Option (List D)) : List V → Hp → VK → Prop := fun vs H Q => ∃ ds zs, DnAll K H vs ds ∧ g ds = some zs ∧
  ∀ p ws H', L2.Same H H' → H p = none → H' p = some (.lst ws) → DfAll K H' ws zs → Q (.ref p) H'

section
variable {K : PySem.W.Frag} {mg : Str → Option Value} {W : WX} {σ : L2.St} {H : Hp}
theorem rd_var {i : Nat} {Q : VK} (h : rdE K mg W (mVar i) σ H Q) : tVar i σ H Q := by
  obtain ⟨φ, ρ, S, eo, so, h⟩ := h
  unfold mVar at h
  split at h
  · rename_i r e
    obtain ⟨v, e1, q⟩ := eo.at_ i r e
    exact ⟨v, e1, h.now so v q⟩
  · exact h.elim
theorem rd_mB {m : EM} {Q : Bool → Hp → Prop} (h : rdT K mg W (mB m) σ H Q) : rdE K mg W m σ H (fun x H' => ∃ k, x = .bl k ∧ Q k H') := by
  obtain ⟨φ, ρ, S, eo, so, h⟩ := h
  refine ⟨φ, ρ, S, eo, so, (EndR.bind h).imp fun r φ1 S1 H1 er g1 so1 h1 v r1 => ?_⟩
  split at h1
  · rename_i k
    cases r1
    exact ⟨k, rfl, h1.now so1⟩
  · exact h1.elim
theorem rd_op2 {g : D → D → Option D} {a b : EM} {Q : VK} (h : rdE K mg W (mOp2 g a b) σ H Q) : tOp (opRd K g) (rdE K mg W a) (rdE K mg W b) σ H Q := by
  obtain ⟨φ, ρ, S, eo, so, h⟩ := h
  refine ⟨φ, ρ, S, eo, so, (EndR.bind h).imp fun x φ1 S1 H1 _ g1 so1 h1 v1 r1 => ?_⟩
  refine ⟨φ1, ρ, S1, eo.grow g1, so1, (EndR.bind h1).imp fun y φ2 S2 H2 _ g2 so2 h2 v2 r2 => ?_⟩
  split at h2
  · rename_i x' y' q1 q2
    split at h2
    · rename_i z q3
      exact ⟨x', y', z, (r1.grow g2).rd so2 q1, r2.rd so2 q2, q3, fun v H' s d => h2 φ2 H' (Grow.same s) (so2.same s) v d⟩
    · exact h2.elim
  · exact h2.elim
theorem rd_op2L {g : D → D → Option (List D)} {a b : EM} {Q : VK} (h : rdN K mg W (mOp2L g a b) σ H Q) : tOp (opRdL K g) (rdE K mg W a) (rdE K mg W b) σ H Q := by
  obtain ⟨φ, ρ, S, eo, so, h⟩ := h
  refine ⟨φ, ρ, S, eo, so, (EndR.bind h).imp fun x φ1 S1 H1 _ g1 so1 h1 v1 r1 => ?_⟩
  refine ⟨φ1, ρ, S1, eo.grow g1, so1, (EndR.bind h1).imp fun y φ2 S2 H2 _ g2 so2 h2 v2 r2 => ?_⟩
  split at h2
  · rename_i x' y' q1 q2
    unfold Res.opt at h2
    split at h2
    · rename_i zs q3
      refine ⟨x', y', zs, (r1.grow g2).rd so2 q1, r2.rd so2 q2, q3, fun p vs H' s n e d => h2 φ2 H' (Grow.same s) (so2.same s) p vs ?_ ?_ e d⟩
      · exact Grow.none (g1.trans g2) n (so2.free n)
      · exact so2.free n
    · exact h2.elim
  · exact h2.elim
theorem rd_cons {a : EM} {r : AM} {Q : List V → Hp → Prop} (h : rdA K mg W (mCons a r) σ H Q) : tCons (rdE K mg W a) (rdA K mg W r) σ H Q := by
  obtain ⟨φ, ρ, S, eo, so, h⟩ := h
  refine ⟨φ, ρ, S, eo, so, (EndR.bind h).imp fun x φ1 S1 H1 _ g1 so1 h1 v1 r1 => ?_⟩
  refine ⟨φ1, ρ, S1, eo.grow g1, so1, (EndR.bind h1).imp fun xs φ2 S2 H2 _ g2 so2 h2 vs r2 => ?_⟩
  exact h2.now so2 (v1 :: vs) (.cons (r1.grow g2) r2)
theorem rd_nil {Q : List V → Hp → Prop} (h : rdA K mg W mNil σ H Q) : tNil σ H Q := by
  obtain ⟨φ, ρ, S, eo, so, h⟩ := h
  exact EndR.now so h [] .nil
theorem all_df {φ : List Addr} : ∀ {vs : List V} {rs : List R} {ds : List D}, RelRs K φ H vs rs → allD rs = some ds → DfAll K H vs ds
  | _, _, _, .nil, e => by cases e; exact .nil
  | _, .d x :: rs, ds, .cons h t, e => by
    unfold allD at e
    cases q : allD rs with
    | none => rw [q] at e; cases e
    | some xs => rw [q] at e; cases e; exact .cons h (all_df t q)
  | _, .ref i :: rs, ds, .cons h t, e => by cases e
theorem all_dn {φ : List Addr} {S : Store} (so : StOk K φ H S) : ∀ {vs : List V} {rs : List R} {ds : List D}, RelRs K φ H vs rs → rdAll S rs = some ds → DnAll K H vs ds
  | _, _, _, .nil, e => by cases e; exact .nil
  | _, x :: rs, ds, .cons h t, e => by
    unfold rdAll at e
    split at e
    · rename_i x' xs q1 q2
      cases e
      exact .cons (h.rd so q1) (all_dn so t q2)
    · cases e
theorem rd_tup {a : AM} {Q : VK} (h : rdE K mg W (mTup a) σ H Q) : tTup (rdA K mg W a) σ H Q := by
  obtain ⟨φ, ρ, S, eo, so, h⟩ := h
  refine ⟨φ, ρ, S, eo, so, (EndR.bind h).imp fun xs φ1 S1 H1 _ g1 so1 h1 vs r1 => ?_⟩
  split at h1
  · rename_i ds q
    split at h1
    · rename_i hz
      have df := all_df r1 q
      refine ⟨by rw [df.length]; exact hz, fun p hp => ?_⟩
      have s : L2.Same H1 (upd H1 p (.tup vs)) := fun b o e => by rw [upd_ne (ne_of_none e hp)]; exact e
      exact h1 φ1 _ (Grow.same s) (so1.same s) _ (.tup (.inl (.inl upd_same)) (DfAll.mono (Same.stab s) df))
    · exact h1.elim
  · exact h1.elim
theorem rd_disp {a : AM} {Q : VK} (h : rdN K mg W (mDisp a) σ H Q) : tLst (rdA K mg W a) σ H Q := by
  obtain ⟨φ, ρ, S, eo, so, h⟩ := h
  refine ⟨φ, ρ, S, eo, so, (EndR.bind h).imp fun xs φ1 S1 H1 _ g1 so1 h1 vs r1 => ?_⟩
  split at h1
  · rename_i ds q
    split at h1
    · rename_i hz
      have df := all_df r1 q
      refine ⟨by rw [df.length]; exact hz, fun p hp => ?_⟩
      have s : L2.Same H1 (upd H1 p (.lst vs)) := fun b o e => by rw [upd_ne (ne_of_none e hp)]; exact e
      exact h1 φ1 _ (Grow.same s) (so1.same s) p vs (Grow.none g1 hp (so1.free hp)) (so1.free hp) upd_same (DfAll.mono (Same.stab s) df)
    · exact h1.elim
  · exact h1.elim
theorem rd_cb {g : List D → Option D} {a : AM} {Q : VK} (h : rdE K mg W (mCB g a) σ H Q) : tCB (cbRd K g) (rdA K mg W a) σ H Q := by
  obtain ⟨φ, ρ, S, eo, so, h⟩ := h
  refine ⟨φ, ρ, S, eo, so, (EndR.bind h).imp fun xs φ1 S1 H1 _ g1 so1 h1 vs r1 => ?_⟩
  split at h1
  · rename_i ds q
    split at h1
    · rename_i z q3
      exact ⟨ds, z, all_dn so1 r1 q, q3, fun v H' s d => h1 φ1 H' (Grow.same s) (so1.same s) v d⟩
    · exact h1.elim
  · exact h1.elim
theorem rd_cbL {g : List D → Option (List D)} {a : AM} {Q : VK} (h : rdN K mg W (mCBL g a) σ H Q) : tCB (cbRdL K g) (rdA K mg W a) σ H Q := by
  obtain ⟨φ, ρ, S, eo, so, h⟩ := h
  refine ⟨φ, ρ, S, eo, so, (EndR.bind h).imp fun xs φ1 S1 H1 _ g1 so1 h1 vs r1 => ?_⟩
  split at h1
  · rename_i ds q
    unfold Res.opt at h1
    split at h1
    · rename_i zs q3
      refine ⟨ds, zs, all_dn so1 r1 q, q3, fun p ws H' s n e d => h1 φ1 H' (Grow.same s) (so1.same s) p ws (Grow.none g1 n (so1.free n)) (so1.free n) e d⟩
    · exact h1.elim
  · exact h1.elim
/-- truth -/
theorem Dn.tru {v : V} {d : D} {k : Bool} (h : Dn K H v d) (e : truD d = some k) : TruV K v H k := by
  cases d with
  | none => cases h.none_eq; cases e; rfl
  | bool b => cases h.bool_eq; cases e; rfl
  | int i => cases h.int_eq; cases e; rfl
  | str x =>
    cases h.str_eq
    have e' : (if x.length ≤ sizeLine then some ((x.length : Int) != 0) else none) = some k := e
    by_cases hz : x.length ≤ sizeLine
    · rw [if_pos hz] at e'; cases e'; exact ⟨hz, rfl⟩
    · rw [if_neg hz] at e'; cases e'
  | list xs =>
    obtain ⟨a, vs, rfl, hs, t⟩ := h.list_at
    cases e
    refine .inl ⟨vs, hs, ?_⟩
    cases t <;> rfl
  | tuple xs =>
    obtain ⟨a, vs, rfl, hs, t⟩ := h.tup_at
    cases e
    refine .inr (.inl ⟨vs, hs, ?_⟩)
    cases t <;> rfl
  | dict _ => cases e
theorem rd_truth {m : EM} {Q : Bool → Hp → Prop} (h : rdT K mg W (mTruth m) σ H Q) : rdE K mg W m σ H (fun x H' => ∃ k, TruV K x H' k ∧ Q k H') := by
  obtain ⟨φ, ρ, S, eo, so, h⟩ := h
  refine ⟨φ, ρ, S, eo, so, (EndR.bind h).imp fun r φ1 S1 H1 _ g1 so1 h1 v r1 => ?_⟩
  split at h1
  · rename_i x' q
    unfold Res.opt at h1
    split at h1
    · rename_i k q2
      exact ⟨k, (r1.rd so1 q).tru q2, h1.now so1⟩
    · exact h1.elim
  · exact h1.elim
theorem rd_and {a b : TM} {Q : Bool → Hp → Prop} (h : rdT K mg W (mAndT a b) σ H Q) : tAnd (rdT K mg W a) (rdT K mg W b) σ H Q := by
  obtain ⟨φ, ρ, S, eo, so, h⟩ := h
  refine ⟨φ, ρ, S, eo, so, (EndR.bind h).imp fun c φ1 S1 H1 _ g1 so1 h1 => ?_⟩
  cases c with
  | true => exact ⟨φ1, ρ, S1, eo.grow g1, so1, h1⟩
  | false => exact h1.now so1
theorem rd_or {a b : TM} {Q : Bool → Hp → Prop} (h : rdT K mg W (mOrT a b) σ H Q) : tOr (rdT K mg W a) (rdT K mg W b) σ H Q := by
  obtain ⟨φ, ρ, S, eo, so, h⟩ := h
  refine ⟨φ, ρ, S, eo, so, (EndR.bind h).imp fun c φ1 S1 H1 _ g1 so1 h1 => ?_⟩
  cases c with
  | true => exact h1.now so1
  | false => exact ⟨φ1, ρ, S1, eo.grow g1, so1, h1⟩
theorem rd_not {a : TM} {Q : Bool → Hp → Prop} (h : rdT K mg W (mNotT a) σ H Q) : tNot (rdT K mg W a) σ H Q := by
  obtain ⟨φ, ρ, S, eo, so, h⟩ := h
  exact ⟨φ, ρ, S, eo, so, (EndR.bind h).imp fun c φ1 S1 H1 _ g1 so1 h1 => h1.now so1⟩
theorem rd_ifE {c : TM} {a b : EM} {Q : VK} (h : rdE K mg W (mIfE c a b) σ H Q) : tIf (rdT K mg W c) (rdE K mg W a) (rdE K mg W b) σ H Q := by
  obtain ⟨φ, ρ, S, eo, so, h⟩ := h
  refine ⟨φ, ρ, S, eo, so, (EndR.bind h).imp fun c φ1 S1 H1 _ g1 so1 h1 => ?_⟩
  cases c with
  | true => exact ⟨φ1, ρ, S1, eo.grow g1, so1, h1⟩
  | false => exact ⟨φ1, ρ, S1, eo.grow g1, so1, h1⟩
theorem rd_andV {a b : EM} {Q : VK} (h : rdE K mg W (mAndV a b) σ H Q) : tAndT K (rdE K mg W a) (rdE K mg W b) σ H Q := by
  obtain ⟨φ, ρ, S, eo, so, h⟩ := h
  refine ⟨φ, ρ, S, eo, so, (EndR.bind h).imp fun r φ1 S1 H1 _ g1 so1 h1 v r1 => ?_⟩
  split at h1
  · rename_i x' q
    split at h1
    · rename_i q2
      refine ⟨true, (r1.rd so1 q).tru q2, ?_⟩
      rw [if_pos rfl]
      exact ⟨φ1, ρ, S1, eo.grow g1, so1, h1⟩
    · rename_i q2
      refine ⟨false, (r1.rd so1 q).tru q2, ?_⟩
      rw [if_neg Bool.false_ne_true]
      exact h1.now so1 v r1
    · exact h1.elim
  · exact h1.elim
theorem rd_orV {a b : EM} {Q : VK} (h : rdE K mg W (mOrV a b) σ H Q) : tOrT K (rdE K mg W a) (rdE K mg W b) σ H Q := by
  obtain ⟨φ, ρ, S, eo, so, h⟩ := h
  refine ⟨φ, ρ, S, eo, so, (EndR.bind h).imp fun r φ1 S1 H1 _ g1 so1 h1 v r1 => ?_⟩
  split at h1
  · rename_i x' q
    split at h1
    · rename_i q2
      refine ⟨true, (r1.rd so1 q).tru q2, ?_⟩
      rw [if_pos rfl]
      exact h1.now so1 v r1
    · rename_i q2
      refine ⟨false, (r1.rd so1 q).tru q2, ?_⟩
      rw [if_neg Bool.false_ne_true]
      exact ⟨φ1, ρ, S1, eo.grow g1, so1, h1⟩
    · exact h1.elim
  · exact h1.elim
theorem rd_notV {a : EM} {Q : VK} (h : rdE K mg W (mNotV a) σ H Q) : tNotT K (rdE K mg W a) σ H Q := by
  obtain ⟨φ, ρ, S, eo, so, h⟩ := h
  refine ⟨φ, ρ, S, eo, so, (EndR.bind h).imp fun r φ1 S1 H1 _ g1 so1 h1 v r1 => ?_⟩
  split at h1
  · rename_i x' q
    split at h1
    · rename_i k q2
      exact ⟨k, (r1.rd so1 q).tru q2, h1.now so1 _ (.bl _)⟩
    · exact h1.elim
  · exact h1.elim
theorem rd_chain {g g' : D → D → Option D} {a b c : EM} {Q : VK} (h : rdE K mg W (mChain g g' a b c) σ H Q) : tChain (opRd K g) (opRd K g') (rdE K mg W a) (rdE K mg W b) (rdE K mg W c) σ H Q := by
  obtain ⟨φ, ρ, S, eo, so, h⟩ := h
  refine ⟨φ, ρ, S, eo, so, (EndR.bind h).imp fun x φ1 S1 H1 _ g1 so1 h1 v1 r1 => ?_⟩
  refine ⟨φ1, ρ, S1, eo.grow g1, so1, (EndR.bind h1).imp fun y φ2 S2 H2 _ g2 so2 h2 v2 r2 => ?_⟩
  split at h2
  · rename_i x' y' q1 q2
    split at h2
    · rename_i q3
      refine ⟨x', y', .bool true, (r1.grow g2).rd so2 q1, r2.rd so2 q2, q3, fun v H' s d => ?_⟩
      cases d
      refine ⟨true, rfl, ?_⟩
      rw [if_pos rfl]
      have gs : Grow φ2 H2 φ2 H' := Grow.same s
      refine ⟨φ2, ρ, S2, (eo.grow (g1.trans g2)).grow gs, so2.same s, ?_⟩
      have h2' : EndR K mg W φ2 H' σ (fun r φ' _ H'' => ∀ v, RelR K φ' H'' v r → Q v H'') _ := EndR.later gs h2
      refine (EndR.bind h2').imp fun z φ3 S3 H3 _ g3 so3 h3 v3 r3 => ?_
      split at h3
      · rename_i y'' z' q4 q5
        split at h3
        · rename_i k q6
          exact ⟨y'', z', k, ((r2.grow gs).grow g3).rd so3 q4, r3.rd so3 q5, q6, fun v H' s d => h3 φ3 H' (Grow.same s) (so3.same s) v d⟩
        · exact h3.elim
      · exact h3.elim
    · rename_i q3
      refine ⟨x', y', .bool false, (r1.grow g2).rd so2 q1, r2.rd so2 q2, q3, fun v H' s d => ?_⟩
      cases d
      refine ⟨false, rfl, ?_⟩
      rw [if_neg Bool.false_ne_true]
      exact h2 φ2 H' (Grow.same s) (so2.same s) _ (.bl _)
    · exact h2.elim
  · exact h2.elim
end
end Pi

set_option Elab.async false
set_option linter.all false
set_option maxRecDepth 100000
/-! Pi3: wrappers of expressions, new lists, iterables, targets, comprehensions. -/
namespace Pi
open PySem PySem.Spec PyProof.Rows L2

abbrev IW (X : Cx) (W : WX) (e : Expr) (m : TM) : Prop := PW X e (rdT X.K X.mg W m)
section
variable {X : Cx} {W : WX} {a b c : Expr} {ma mb mc : EM} {pos : Pos} {es rest : List Expr} {am : AM}
theorem i_var (i : Nat) {x : Str} (hN : X.N[i]? = some x := by rfl) (hv : Vis X.env.scope x := by first | exact Or.inl rfl | exact Or.inr (Or.inl rfl) | exact Or.inr (Or.inr rfl)) (hd : (x == ("__debug__" : Str)) = false := by decide)
    (hcd : (x == ("__classdict__" : Str)) = false := by decide) : IE X W (.Name x pos) (mVar i) := PE.imp (pe_var hN hv hd hcd) fun _ _ _ h => rd_var h
theorem rd_const {K : PySem.W.Frag} {mg : Str → Option Value} {x : D} {v : V} (hv : ∀ H, Df K H v x) {σ : L2.St} {H : Hp} {Q : VK} (h : rdE K mg W (mD x) σ H Q) : tC v σ H Q := by
  obtain ⟨φ, ρ, S, eo, so, h⟩ := h
  exact EndR.now so h v (hv H)
theorem i_int {i : Int} {j} : IE X W (.Constant (.int i) j pos) (mD (.int i)) := PE.imp pe_int fun _ _ _ h => rd_const (fun _ => .int i) h
theorem i_bl {k : Bool} {j} : IE X W (.Constant (.bool k) j pos) (mD (.bool k)) := PE.imp pe_bl fun _ _ _ h => rd_const (fun _ => .bl k) h
theorem i_non {j} : IE X W (.Constant .none j pos) (mD .none) := PE.imp pe_non fun _ _ _ h => rd_const (fun _ => .non) h
theorem i_str {x : String} {j} : IE X W (.Constant (.str x) j pos) (mD (.str x)) := PE.imp pe_str fun _ _ _ h => rd_const (fun _ => .str x) h
/-- a module's constant -/
theorem i_glob {x : Str} {v : V} {u : Value} {d : D} (hm : X.mg x = some u) (r : RelV v u) (hv : ∀ H, Df X.K H v d) (hg : Gl X x := by rfl) (hd : (x == ("__debug__" : Str)) = false := by decide) : IE X W (.Name x pos) (mD d) :=
  PE.imp (pe_glob hg hm r hd) fun _ _ _ h => rd_const hv h
theorem i_op2 {op : Operator} {g : D → D → Option D} (ho : OpR X (binaryOp op) (opRd X.K g)) (ha : IE X W a ma) (hb : IE X W b mb) : IE X W (.BinOp a op b pos) (mOp2 g ma mb) :=
  PE.imp (pe_op ho ha hb) fun _ _ _ h => rd_op2 h
theorem i_op2L {op : Operator} {g : D → D → Option (List D)} (ho : OpR X (binaryOp op) (opRdL X.K g)) (ha : IE X W a ma) (hb : IE X W b mb) : IN X W (.BinOp a op b pos) (mOp2L g ma mb) :=
  PE.imp (pe_op ho ha hb) fun _ _ _ h => rd_op2L h
theorem rd_op1 {K : PySem.W.Frag} {mg : Str → Option Value} {g : D → Option D} {m : EM} {σ : L2.St} {H : Hp} {Q : VK} (h : rdE K mg W (mOp1 g m) σ H Q) :
    rdE K mg W m σ H (fun x H1 => ∃ d z, Dn K H1 x d ∧ g d = some z ∧ ∀ v H', L2.Same H1 H' → Df K H' v z → Q v H') := by
  obtain ⟨φ, ρ, S, eo, so, h⟩ := h
  refine ⟨φ, ρ, S, eo, so, (EndR.bind h).imp fun x φ1 S1 H1 _ g1 so1 h1 v1 r1 => ?_⟩
  split at h1
  · rename_i x' q1
    split at h1
    · rename_i z q3
      exact ⟨x', z, r1.rd so1 q1, q3, fun v H' s d => h1 φ1 H' (Grow.same s) (so1.same s) v d⟩
    · exact h1.elim
  · exact h1.elim
theorem i_neg (ha : IE X W a ma) : IE X W (.UnaryOp .USub a pos) (mOp1 (fun d => match d with | .int i => some (.int (-i)) | _ => none) ma) :=
  PE.imp (pe_un un_neg ha) fun σ H Q h => by
    obtain ⟨φ, ρ, S, eo, so, h⟩ := rd_op1 h
    refine ⟨φ, ρ, S, eo, so, h.imp fun x φ1 S1 H1 _ g1 so1 h1 v r => ?_⟩
    obtain ⟨d, z, dn, e, q⟩ := h1 v r
    split at e
    · cases dn.int_eq; cases e; exact ⟨_, rfl, q _ H1 (L2.Same.refl _) (.int _)⟩
    · cases e
theorem i_cmp {op : CmpOp} {g : D → D → Option D} (ho : OpR X (compareOp op) (opRd X.K g)) (ha : IE X W a ma) (hb : IE X W b mb) (hm : behindInMarks op b = false) : IE X W (.Compare a [op] [b] pos) (mOp2 g ma mb) :=
  PE.imp (pe_cmpR ho ha hb hm) fun _ _ _ h => rd_op2 h
theorem i_cmpT {op : CmpOp} {g : D → D → Option D} (ho : OpR X (compareOp op) (opRd X.K g)) (ha : IE X W a ma) (hb : IE X W b mb) (hm : behindInMarks op b = false) : IT X W (.Compare a [op] [b] pos) (mB (mOp2 g ma mb)) :=
  PT.imp (pt_cmpR ho ha hb hm) fun _ _ _ h => rd_op2 (rd_mB h)
theorem i_chain {op op' : CmpOp} {g g' : D → D → Option D} (ho : OpR X (compareOp op) (opRd X.K g)) (ho' : OpR X (compareOp op') (opRd X.K g')) (ha : IE X W a ma) (hb : IE X W b mb) (hc : IE X W c mc)
    (hm : lastMarks [op, op'] [b, c] = false := by with_unfolding_all rfl) : IE X W (.Compare a [op, op'] [b, c] pos) (mChain g g' ma mb mc) := PE.imp (pe_chain ho ho' ha hb hc hm) fun _ _ _ h => rd_chain h
theorem i_chainT {op op' : CmpOp} {g g' : D → D → Option D} (ho : OpR X (compareOp op) (opRd X.K g)) (ho' : OpR X (compareOp op') (opRd X.K g')) (ha : IE X W a ma) (hb : IE X W b mb) (hc : IE X W c mc)
    (hm : lastMarks [op, op'] [b, c] = false := by with_unfolding_all rfl) : IT X W (.Compare a [op, op'] [b, c] pos) (mB (mChain g g' ma mb mc)) := PT.imp (pt_chain ho ho' ha hb hc hm) fun _ _ _ h => rd_chain (rd_mB h)
theorem i_tru (ha : IE X W a ma) (he : ∀ whole, isTrue a X.env whole = (do let v ← whole; standAt a.pos; holding [v] (truthy v)) := by intro _; rfl) : IT X W a (mTruth ma) :=
  PT.imp (pt_truth ha he) fun _ _ _ h => rd_truth h
variable {ta tb : TM}
theorem i_notT (ha : IT X W a ta) : IT X W (.UnaryOp .Not a pos) (mNotT ta) := PT.imp (pt_not ha) fun _ _ _ h => rd_not h
theorem i_and1 (ha : IT X W a ta) : IW X W (.BoolOp .And [a] pos) ta := pw_and1 ha
theorem i_or1 (ha : IT X W a ta) : IW X W (.BoolOp .Or [a] pos) ta := pw_or1 ha
theorem i_andT (ha : IT X W a ta) (hb : IW X W (.BoolOp .And (b :: rest) pos) tb) : IW X W (.BoolOp .And (a :: b :: rest) pos) (mAndT ta tb) := PW.imp (pw_and ha hb) fun _ _ _ h => rd_and h
theorem i_orT (ha : IT X W a ta) (hb : IW X W (.BoolOp .Or (b :: rest) pos) tb) : IW X W (.BoolOp .Or (a :: b :: rest) pos) (mOrT ta tb) := PW.imp (pw_or ha hb) fun _ _ _ h => rd_or h
theorem i_bt {m : TM} (h : IW X W a m) : IT X W a m := PW.pt h
theorem i_ifE (hc : IT X W c ta) (ha : IE X W a ma) (hb : IE X W b mb) : IE X W (.IfExp c a b pos) (mIfE ta ma mb) := PE.imp (pe_ifExp hc ha hb) fun _ _ _ h => rd_ifE h
theorem i_one {op} (ha : IE X W a ma) : IE X W (.BoolOp op [a] pos) ma := pe_one ha
theorem i_andV (ha : IE X W a ma) (hb : IE X W (.BoolOp .And (b :: rest) pos) mb) : IE X W (.BoolOp .And (a :: b :: rest) pos) (mAndV ma mb) := PE.imp (pe_andT ha hb) fun _ _ _ h => rd_andV h
theorem i_orV (ha : IE X W a ma) (hb : IE X W (.BoolOp .Or (b :: rest) pos) mb) : IE X W (.BoolOp .Or (a :: b :: rest) pos) (mOrV ma mb) := PE.imp (pe_orT ha hb) fun _ _ _ h => rd_orV h
theorem i_notV (ha : IE X W a ma) : IE X W (.UnaryOp .Not a pos) (mNotV ma) := PE.imp (pe_notT ha) fun _ _ _ h => rd_notV h
theorem i_nil : IA X W [] mNil := PA.imp pa_nil fun _ _ _ h => rd_nil h
theorem i_cons (ha : IE X W a ma) (hr : IA X W es am) (hs : starEach (a :: es) X.env = (false, eval a X.env) :: starEach es X.env := by rfl) : IA X W (a :: es) (mCons ma am) := PA.imp (pa_cons ha hr hs) fun _ _ _ h => rd_cons h
theorem i_tup {x1} (h : IA X W es am) : IE X W (.Tuple es x1 pos) (mTup am) := PE.imp (pe_tup h) fun _ _ _ h => rd_tup h
theorem i_lst (h : IA X W es am) : IN X W (.List es pos) (mDisp am) := PE.imp (pe_lst h) fun _ _ _ h => rd_disp h
variable {x : Str} {p : Pos} {e : Expr} {id T : String}
theorem i_cb {g : List D → Option D} (hc : CallR X (.builtin id) (cbRd X.K g)) (hm : X.mg x = none) (hv : bootBuiltins x = some (.builtin id)) (ha : IA X W (e :: es) am) (hg : Gl X x := by rfl) (hn : x ≠ "__name__" := by decide) (hdb : (x == ("__debug__" : Str)) = false := by decide)
    (he : starEach (e :: es) X.env = (false, eval e X.env) :: starEach es X.env := by rfl) (hpl : (backTo pos (starEach es X.env)).any (·.1) = false := by rfl) : IE X W (.Call (.Name x p) (e :: es) [] pos) (mCB g am) :=
  PE.imp (pe_callB hc hg hm hv ha hn hdb he hpl) fun _ _ _ h => rd_cb h
theorem i_cbL {g : List D → Option (List D)} (hc : CallR X (.builtin id) (cbRdL X.K g)) (hm : X.mg x = none) (hv : bootBuiltins x = some (.builtin id)) (ha : IA X W (e :: es) am) (hg : Gl X x := by rfl) (hn : x ≠ "__name__" := by decide) (hdb : (x == ("__debug__" : Str)) = false := by decide)
    (he : starEach (e :: es) X.env = (false, eval e X.env) :: starEach es X.env := by rfl) (hpl : (backTo pos (starEach es X.env)).any (·.1) = false := by rfl) : IN X W (.Call (.Name x p) (e :: es) [] pos) (mCBL g am) :=
  PE.imp (pe_callB hc hg hm hv ha hn hdb he hpl) fun _ _ _ h => rd_cbL h
theorem i_ct {g : List D → Option D} (hc : CallR X (.type T) (cbRd X.K g)) (hm : X.mg x = none) (hv : bootBuiltins x = some (.type T)) (ha : IA X W (e :: es) am) (hg : Gl X x := by rfl) (hn : x ≠ "__name__" := by decide) (hdb : (x == ("__debug__" : Str)) = false := by decide)
    (he : starEach (e :: es) X.env = (false, eval e X.env) :: starEach es X.env := by rfl) (hpl : (backTo pos (starEach es X.env)).any (·.1) = false := by rfl) : IE X W (.Call (.Name x p) (e :: es) [] pos) (mCB g am) :=
  PE.imp (pe_callTy hc hg hm hv ha hn hdb he hpl) fun _ _ _ h => rd_cb h
theorem i_ctL {g : List D → Option (List D)} (hc : CallR X (.type T) (cbRdL X.K g)) (hm : X.mg x = none) (hv : bootBuiltins x = some (.type T)) (ha : IA X W (e :: es) am) (hg : Gl X x := by rfl) (hn : x ≠ "__name__" := by decide) (hdb : (x == ("__debug__" : Str)) = false := by decide)
    (he : starEach (e :: es) X.env = (false, eval e X.env) :: starEach es X.env := by rfl) (hpl : (backTo pos (starEach es X.env)).any (·.1) = false := by rfl) : IN X W (.Call (.Name x p) (e :: es) [] pos) (mCBL g am) :=
  PE.imp (pe_callTy hc hg hm hv ha hn hdb he hpl) fun _ _ _ h => rd_cbL h
/-- a subscript -/
theorem i_ix {g : D → D → Option D} (hr : IxR X (opRd X.K g)) (ha : IE X W a ma) (hb : IE X W b mb) (hs : PlainIx b := by intro _ _; rfl) : IE X W (.Subscript a b pos) (mOp2 g ma mb) := PE.imp (pe_ix hr ha hb hs) fun _ _ _ h => rd_op2 h
end

/-! ### a new list is frozen, or is a cell -/
theorem _root_.L2.Inv.freeze {X : Cx} {pins : List (Addr × Obj)} {σ : L2.St} {H : Hp} {s : Shared} {a : Addr} {xs : List V} (I : Inv X pins σ H s) (h : H a = some (.lst xs)) : ∃ o, Inv X pins σ (upd H a (.frz o (.lst xs))) s := by
  have q := I.hok a _ h
  obtain ⟨z, its, n, r, e⟩ := id q
  refine ⟨{ cls := .type "list", data := .seq its.toArray n }, ?_⟩
  have hok : HOk X.prog X.w (upd H a (.frz { cls := .type "list", data := .seq its.toArray n } (.lst xs))) s.heap := fun b u e' => by
    by_cases hb : b = a
    · subst hb
      rw [upd_same] at e'; cases e'
      exact ⟨e, z, its, n, r, e⟩
    · rw [upd_ne hb] at e'
      refine (I.hok b u e').stay (fun _ _ _ q => q) (fun c q => ?_) fun c ys q => ?_
      · rw [upd_ne (ne_of q h (by intro z; cases z))]; exact q
      · rw [upd_ne (ne_of q h (by intro z; cases z))]; exact q
  have hne : ∀ c, H c = none → c ≠ a := fun c n z => by rw [z, h] at n; cases n
  have := I.un (t' := s.toks) (h' := s.heap) (H' := upd H a (.frz { cls := .type "list", data := .seq its.toArray n } (.lst xs)))
    ⟨fun _ _ q _ _ _ => q, fun _ o q _ _ _ => ⟨o.slots, q⟩, fun b o _ n _ => by rw [upd_ne (hne b n)]; exact n, fun b o q _ => ⟨o, q⟩, fun b ys q => by rw [upd_ne (ne_of q h (by intro z; cases z))]; exact q,
      fun b o u q => by rw [upd_ne (ne_of q h (by intro z; cases z))]; exact q, fun b ps q => ⟨#[], by rw [upd_ne (ne_of q h (by intro z; cases z)), q]; simp⟩⟩ hok
  exact this
section
variable {X : Cx} {e : Expr} {W : WX} {l : IM}
theorem pe_frz {t : TE} (h : PE X e t) : PE X e (fun σ H Q => t σ H fun v H1 => ∃ a xs, v = .ref a ∧ H1 a = some (.lst xs) ∧ ∀ o, Q v (upd H1 a (.frz o (.lst xs)))) := by
  refine ⟨fun pins s σ H Q I q => thn (h.run pins s σ H _ I q) fun u s1 ⟨v, H1, I1, r, a, xs, e, ea, q⟩ => ?_⟩
  obtain ⟨o, I2⟩ := I1.freeze ea
  exact ⟨v, _, I2, r, q o⟩
theorem Grow.frz {φ φ' : List Addr} {H H' : Hp} (g : Grow φ H φ' H') {p : Addr} {o : HO} (n : H p = Option.none) : Grow φ H φ' (upd H' p o) :=
  ⟨g.pre, fun a o e q => by rw [upd_ne (ne_of_none e n)]; exact g.keep a o e q, g.new⟩
theorem upd_stab {H : Hp} {p : Addr} {o u : HO} (e : H p = some o) (s : stable o = false) : Stab H (upd H p u) := fun a o' st ea => by
  rw [upd_ne (fun z => by rw [z, e] at ea; cases ea; rw [s] at st; cases st)]; exact ea
theorem StOk.upd {K : PySem.W.Frag} {φ : List Addr} {H : Hp} {S : Store} (h : StOk K φ H S) {p : Addr} {o u : HO} (e : H p = some o) (s : stable o = false) (hp : p ∉ φ) : StOk K φ (upd H p u) S :=
  h.keep (upd_stab e s) fun a ha o' ea => by
    have hne : a ≠ p := fun z => hp (z ▸ ha)
    rw [upd_ne hne]; exact ea
theorem rd_frz {K : PySem.W.Frag} {mg : Str → Option Value} {σ : L2.St} {H : Hp} {Q : VK} (h : rdE K mg W (mFrz l) σ H Q) :
    rdN K mg W l σ H (fun v H1 => ∃ a xs, v = .ref a ∧ H1 a = some (.lst xs) ∧ ∀ o, Q v (upd H1 a (.frz o (.lst xs)))) := by
  obtain ⟨φ, ρ, S, eo, so, h⟩ := h
  refine ⟨φ, ρ, S, eo, so, ?_⟩
  unfold mFrz at h
  cases q : l ρ S with
  | ok ds S1 =>
    rw [q] at h
    exact fun φ1 H1 g1 so1 p vs n np ep df => ⟨p, vs, rfl, ep, fun o => h φ1 _ (g1.frz n) (so1.upd ep rfl np) _ (.lst (.inl ⟨o, upd_same⟩) (DfAll.mono (upd_stab ep rfl) df))⟩
  | ex x S1 => rw [q] at h; exact h
  | no => rw [q] at h; exact h
theorem i_frz (h : IN X W e l) : IE X W e (mFrz l) := PE.imp (pe_frz h) fun _ _ _ h => rd_frz h
theorem StOk.more {K : PySem.W.Frag} {φ : List Addr} {H : Hp} {S : Store} (h : StOk K φ H S) {p : Addr} {vs : List V} {ds : List D} (ep : H p = some (.lst vs)) (np : p ∉ φ) (df : DfAll K H vs ds) : StOk K (φ ++ [p]) H (S ++ [.lst ds]) where
  len := by simp [h.len]
  nd := List.nodup_append.mpr ⟨h.nd, by simp, fun a ha b hb => by rw [List.mem_singleton.mp hb]; exact fun z => np (z ▸ ha)⟩
  there := fun a ha => by
    rcases List.mem_append.mp ha with ha | ha
    · exact h.there a ha
    · rw [List.mem_singleton.mp ha]; exact ⟨_, ep⟩
  cell := fun i a c e1 e2 => by
    by_cases hi : i < φ.length
    · rw [List.getElem?_append_left hi] at e1
      rw [List.getElem?_append_left (by rw [← h.len]; exact hi)] at e2
      exact (h.cell i a c e1 e2).mono (List.prefix_append _ _) (fun _ _ _ e => e) fun _ e => e
    · have hi' : i = φ.length := by
        have := (List.getElem?_eq_some_iff.mp e1).1
        simp at this; omega
      subst hi'
      rw [List.getElem?_append_right (Nat.le_refl _), Nat.sub_self] at e1
      rw [h.len, List.getElem?_append_right (Nat.le_refl _), Nat.sub_self] at e2
      simp at e1 e2
      subst e1; subst e2
      exact ⟨vs, ep, df⟩
theorem rd_new {K : PySem.W.Frag} {mg : Str → Option Value} {σ : L2.St} {H : Hp} {Q : VK} (h : rdE K mg W (mNew l) σ H Q) : rdN K mg W l σ H Q := by
  obtain ⟨φ, ρ, S, eo, so, h⟩ := h
  refine ⟨φ, ρ, S, eo, so, ?_⟩
  unfold mNew at h
  cases q : l ρ S with
  | ok ds S1 =>
    rw [q] at h
    refine fun φ1 H1 g1 so1 p vs n np ep df => h (φ1 ++ [p]) H1 ⟨g1.pre.trans (List.prefix_append _ _), g1.keep, fun a ha => ?_⟩ (so1.more ep np df) _ ⟨p, ?_, rfl⟩
    · rcases List.mem_append.mp ha with ha | ha
      · exact g1.new a ha
      · rw [List.mem_singleton.mp ha]; exact .inr n
    · rw [← so1.len, List.getElem?_append_right (Nat.le_refl _), Nat.sub_self]; rfl
  | ex x S1 => rw [q] at h; exact h
  | no => rw [q] at h; exact h
theorem i_new (h : IN X W e l) : IE X W e (mNew l) := PE.imp h fun _ _ _ h => rd_new h
end

/-! ### iterables -/
def ItOk (K : PySem.W.Frag) (H0 : Hp) (ds : List D) (J : It) : Prop :=
  ∀ (H : Hp) (i : Nat), Stab H0 H → (∀ d, ds[i]? = some d → J.go i H ∧ ∀ x H', J.yld i H x H' → L2.Same H H' ∧ Df K H' x d) ∧ (ds.length ≤ i → J.stop i H)
def rdI (K : PySem.W.Frag) (mg : Str → Option Value) (W : WX) (m : IM) : TI := fun σ H R => ∃ φ ρ S, EnvOk K φ H σ ρ ∧ StOk K φ H S ∧
  EndR K mg W φ H σ (fun ds _ _ H' => ∀ J H'', L2.Same H' H'' → ItOk K H'' ds J → R J H'') (m ρ S)
abbrev II (X : Cx) (tg : Expr) (W : WX) (iter : Expr) (m : IM) : Prop := PI X tg iter (rdI X.K X.mg W m)
theorem PI.imp {X : Cx} {tg iter : Expr} {w w' : TI} (h : PI X tg iter w) (f : ∀ σ H R, w' σ H R → w σ H R) : PI X tg iter w' := ⟨fun pins s σ H R I q => h.run pins s σ H R I (f σ H R q)⟩
theorem PI.or {X : Cx} {tg iter : Expr} {w w' : TI} (h : PI X tg iter w) (h' : PI X tg iter w') : PI X tg iter (fun σ H R => w σ H R ∨ w' σ H R) := ⟨fun pins s σ H R I q => q.elim (h.run pins s σ H R I) (h'.run pins s σ H R I)⟩
theorem it_l {K : PySem.W.Frag} {H0 : Hp} {a : Addr} {xs : List V} {ds : List D} (h : FzL K H0 a xs) (df : DfAll K H0 xs ds) : ItOk K H0 ds (Itl K a) := fun H i st => by
  refine ⟨fun d e => ?_, fun hi => ⟨xs, (st.fzL h).sq, by rw [df.length]; exact hi⟩⟩
  obtain ⟨v, e1, dv⟩ := df.get e
  refine ⟨⟨xs, v, (st.fzL h).sq, e1⟩, fun x H' y => ?_⟩
  obtain ⟨rfl, q⟩ := y
  have := q xs (st.fzL h).sq
  rw [e1] at this; cases this
  exact ⟨L2.Same.refl _, Df.mono st dv⟩
theorem it_t {K : PySem.W.Frag} {H0 : Hp} {a : Addr} {xs : List V} {ds : List D} (h : SqT K H0 a xs) (df : DfAll K H0 xs ds) : ItOk K H0 ds (Itt K a) := fun H i st => by
  refine ⟨fun d e => ?_, fun hi => ⟨xs, st.sqT h, by rw [df.length]; exact hi⟩⟩
  obtain ⟨v, e1, dv⟩ := df.get e
  refine ⟨⟨xs, v, st.sqT h, e1⟩, fun x H' y => ?_⟩
  obtain ⟨rfl, q⟩ := y
  have := q xs (st.sqT h)
  rw [e1] at this; cases this
  exact ⟨L2.Same.refl _, Df.mono st dv⟩
theorem rangeD_get : ∀ (n i : Nat) (lo : Int), i < n → (rangeD lo n)[i]? = some (.int (lo + i))
  | n + 1, 0, lo, _ => by simp [rangeD]
  | n + 1, i + 1, lo, h => by
    have := rangeD_get n i (lo + 1) (by omega)
    simp only [rangeD, List.getElem?_cons_succ, this]
    congr 2; omega
theorem rangeD_len : ∀ (n : Nat) (lo : Int), (rangeD lo n).length = n
  | 0, _ => rfl
  | n + 1, lo => by simp [rangeD, rangeD_len n]
theorem it_r {K : PySem.W.Frag} {H0 : Hp} {lo : Int} {n : Nat} : ItOk K H0 (rangeD lo n) (Itr lo n) := fun H i st => by
  refine ⟨fun d e => ?_, fun hi => by rw [rangeD_len] at hi; exact hi⟩
  have hi : i < n := by have := (List.getElem?_eq_some_iff.mp e).1; rw [rangeD_len] at this; exact this
  rw [rangeD_get n i lo hi] at e; cases e
  refine ⟨hi, fun x H' y => ?_⟩
  obtain ⟨rfl, rfl⟩ := y
  exact ⟨L2.Same.refl _, .int _⟩
section
variable {X : Cx} {tg e e2 : Expr} {W : WX} {m : EM} {am : AM} {p pos : Pos}
theorem rd_itS {K : PySem.W.Frag} {mg : Str → Option Value} {σ : L2.St} {H : Hp} {R : It → Hp → Prop} (h : rdI K mg W (mItS m) σ H R) : iList K (rdE K mg W m) σ H R ∨ iTup K (rdE K mg W m) σ H R := by
  obtain ⟨φ, ρ, S, eo, so, h⟩ := h
  unfold mItS at h
  cases q : m ρ S with
  | ok r S1 =>
    rw [q] at h
    simp only [Res.bind_ok] at h
    split at h
    · rename_i x' q1
      cases x' with
      | list ds =>
        left
        refine ⟨φ, ρ, S, eo, so, ?_⟩
        rw [q]
        intro φ1 H1 g1 so1 v r1
        obtain ⟨a, xs, rfl, hf, df⟩ := (r1.plain q1).list_at
        refine ⟨a, rfl, ⟨xs, hf.sq⟩, h φ1 H1 g1 so1 _ _ (L2.Same.refl _) (it_l hf df)⟩
      | tuple ds =>
        right
        refine ⟨φ, ρ, S, eo, so, ?_⟩
        rw [q]
        intro φ1 H1 g1 so1 v r1
        obtain ⟨a, xs, rfl, hf, df⟩ := (r1.plain q1).tup_at
        exact ⟨a, rfl, ⟨xs, hf⟩, h φ1 H1 g1 so1 _ _ (L2.Same.refl _) (it_t hf df)⟩
      | _ => exact h.elim
    · exact h.elim
  | ex x S1 =>
    left
    refine ⟨φ, ρ, S, eo, so, ?_⟩
    rw [q] at h ⊢
    exact h
  | no => rw [q] at h; exact h.elim
end
end Pi

set_option Elab.async false
set_option linter.all false
set_option maxRecDepth 100000
/-! Pi4: iterables by name, targets, comprehensions. -/
namespace Pi
open PySem PySem.Spec PyProof.Rows L2

section
variable {X : Cx} {tg e e2 e3 : Expr} {W : WX} {m : EM} {am : AM} {p pos : Pos}
theorem i_itS (h : IE X W e m) : II X tg W e (mItS m) := PI.imp (PI.or (pi_list h) (pi_tup h)) fun _ _ _ h => rd_itS h
theorem rd_itA {K : PySem.W.Frag} {mg : Str → Option Value} {g : List D → Option (List D)} {σ : L2.St} {H : Hp} {R : It → Hp → Prop} (h : rdI K mg W (mItA g am) σ H R) :
    rdA K mg W am σ H (fun vs H1 => ∃ ds zs, DfAll K H1 vs ds ∧ g ds = some zs ∧ ∀ J H'', L2.Same H1 H'' → ItOk K H'' zs J → R J H'') := by
  obtain ⟨φ, ρ, S, eo, so, h⟩ := h
  refine ⟨φ, ρ, S, eo, so, (EndR.bind h).imp fun xs φ1 S1 H1 _ g1 so1 h1 vs r1 => ?_⟩
  split at h1
  · rename_i ds q
    unfold Res.opt at h1
    split at h1
    · rename_i zs q3
      exact ⟨ds, zs, all_df r1 q, q3, h1.now so1⟩
    · exact h1.elim
  · exact h1.elim
theorem rdA.imp {K : PySem.W.Frag} {mg : Str → Option Value} {σ : L2.St} {H : Hp} {Q Q' : List V → Hp → Prop} (h : rdA K mg W am σ H Q) (f : ∀ vs H', Q vs H' → Q' vs H') : rdA K mg W am σ H Q' := by
  obtain ⟨φ, ρ, S, eo, so, h⟩ := h
  exact ⟨φ, ρ, S, eo, so, h.imp fun xs φ1 S1 H1 _ g1 so1 h1 vs r1 => f _ _ (h1 vs r1)⟩
theorem rdE.imp {K : PySem.W.Frag} {mg : Str → Option Value} {σ : L2.St} {H : Hp} {Q Q' : VK} (h : rdE K mg W m σ H Q) (f : ∀ v H', Q v H' → Q' v H') : rdE K mg W m σ H Q' := by
  obtain ⟨φ, ρ, S, eo, so, h⟩ := h
  exact ⟨φ, ρ, S, eo, so, h.imp fun xs φ1 S1 H1 _ g1 so1 h1 vs r1 => f _ _ (h1 vs r1)⟩
theorem okR_b {i : Int} (h : okR i = true) : -(2 ^ 62) ≤ i ∧ i < 2 ^ 62 := by
  unfold okR at h
  rw [Bool.and_eq_true] at h
  exact ⟨of_decide_eq_true h.1, of_decide_eq_true h.2⟩
theorem i_range1 (hm : X.mg "range" = none) (ha : IA X W [e] am) (hg : Gl X "range" := by rfl) (hs : starEach [e] X.env = [(false, eval e X.env)] := by rfl) : II X tg W (.Call (.Name "range" p) [e] [] pos) (mItA range1 am) :=
  PI.imp (pi_range1 hg hm ha hs) fun σ H R h => by
    refine rdA.imp (rd_itA h) fun vs H1 ⟨ds, zs, df, e, q⟩ => ?_
    unfold range1 at e
    split at e
    · split at e
      · rename_i j hj
        cases e
        cases df with | cons h1 h2 => cases h1; cases h2; exact ⟨j, rfl, (okR_b hj).1, (okR_b hj).2, q _ _ (L2.Same.refl _) it_r⟩
      · cases e
    · cases e
theorem i_range2 (hm : X.mg "range" = none) (ha : IA X W [e, e2] am) (hg : Gl X "range" := by rfl) (hs : starEach [e, e2] X.env = [(false, eval e X.env), (false, eval e2 X.env)] := by rfl) (hs2 : starEach [e2] X.env = [(false, eval e2 X.env)] := by rfl) :
    II X tg W (.Call (.Name "range" p) [e, e2] [] pos) (mItA range2 am) :=
  PI.imp (pi_range2 hg hm ha hs hs2) fun σ H R h => by
    refine rdA.imp (rd_itA h) fun vs H1 ⟨ds, zs, df, e, q⟩ => ?_
    unfold range2 at e
    split at e
    · split at e
      · rename_i i j hj
        cases e
        rw [Bool.and_eq_true] at hj
        cases df with | cons h1 h2 => cases h1; cases h2 with | cons h3 h4 => cases h3; cases h4; exact ⟨i, j, rfl, ⟨(okR_b hj.1).1, (okR_b hj.1).2, (okR_b hj.2).1, (okR_b hj.2).2⟩, q _ _ (L2.Same.refl _) it_r⟩
      · cases e
    · cases e
/-- downwards by ones -/
def downD (hi : Int) : Nat → List D
  | 0 => []
  | n + 1 => .int hi :: downD (hi - 1) n
theorem downD_get : ∀ (n i : Nat) (hi : Int), i < n → (downD hi n)[i]? = some (.int (hi - i))
  | n + 1, 0, hi, _ => by simp [downD]
  | n + 1, i + 1, hi, h => by
    have := downD_get n i (hi - 1) (by omega)
    simp only [downD, List.getElem?_cons_succ, this]
    congr 2 <;> omega
theorem downD_len : ∀ (n : Nat) (hi : Int), (downD hi n).length = n
  | 0, _ => rfl
  | n + 1, hi => by simp [downD, downD_len n]
def range3 : List D → Option (List D)
  | [.int i, .int j, .int (-1)] => if okR i && okR j then some (downD i (i - j).toNat) else none
  | _ => none
theorem it_c {K : PySem.W.Frag} {H0 : Hp} {hi : Int} {n : Nat} : ItOk K H0 (downD hi n) (Itc hi (-1) n) := fun H i st => by
  refine ⟨fun d e => ?_, fun h => by rw [downD_len] at h; exact h⟩
  have hlt : i < n := by have := (List.getElem?_eq_some_iff.mp e).1; rw [downD_len] at this; exact this
  rw [downD_get n i hi hlt] at e; cases e
  refine ⟨hlt, fun x H' y => ?_⟩
  obtain ⟨rfl, rfl⟩ := y
  refine ⟨L2.Same.refl _, ?_⟩
  have : hi + (i : Int) * (-1) = hi - i := by omega
  rw [this]
  exact .int _
theorem i_range3 (hm : X.mg "range" = none) (ha : IA X W [e, e2, e3] am) (hg : Gl X "range" := by rfl) (hs : starEach [e, e2, e3] X.env = (false, eval e X.env) :: starEach [e2, e3] X.env := by rfl) (hpl : (backTo pos (starEach [e2, e3] X.env)).any (·.1) = false := by rfl) :
    II X tg W (.Call (.Name "range" p) [e, e2, e3] [] pos) (mItA range3 am) :=
  PI.imp (pi_range3 hg hm ha hs hpl) fun σ H R h => by
    refine rdA.imp (rd_itA h) fun vs H1 ⟨ds, zs, df, e, q⟩ => ?_
    unfold range3 at e
    split at e
    · split at e
      · rename_i i j hj
        cases e
        rw [Bool.and_eq_true] at hj
        cases df with
        | cons h1 h2 =>
          cases h1
          cases h2 with
          | cons h3 h4 =>
            cases h3
            cases h4 with
            | cons h5 h6 =>
              cases h5; cases h6
              exact ⟨i, j, -1, _, rfl, RgC.neg (okR_b hj.1).1 (okR_b hj.1).2 (okR_b hj.2).1 (okR_b hj.2).2, q _ _ (L2.Same.refl _) it_c⟩
      · cases e
    · cases e
theorem zipD_get : ∀ (xs ys : List D) (i : Nat) (d : D), (zipD xs ys)[i]? = some d → ∃ x y, d = .tuple [x, y] ∧ xs[i]? = some x ∧ ys[i]? = some y
  | [], _, _, _, e => by simp [zipD] at e
  | _ :: _, [], _, _, e => by simp [zipD] at e
  | x :: xs, y :: ys, 0, d, e => by simp [zipD] at e; exact ⟨x, y, e.symm, rfl, rfl⟩
  | x :: xs, y :: ys, i + 1, d, e => by
    simp only [zipD, List.getElem?_cons_succ] at e
    obtain ⟨a, b, h1, h2, h3⟩ := zipD_get xs ys i d e
    exact ⟨a, b, h1, by simpa using h2, by simpa using h3⟩
theorem zipD_len : ∀ (xs ys : List D), (zipD xs ys).length = min xs.length ys.length
  | [], _ => by simp [zipD]
  | _ :: _, [] => by simp [zipD]
  | x :: xs, y :: ys => by simp only [zipD, List.length_cons, zipD_len xs ys]; omega
theorem pair_tup {K : PySem.W.Frag} {H : Hp} {T : Addr} {x y : V} {a b : D} (hT : H T = none) (h1 : Df K H x a) (h2 : Df K H y b) : L2.Same H (upd H T (.tup [x, y])) ∧ Df K (upd H T (.tup [x, y])) (.ref T) (.tuple [a, b]) := by
  have s : L2.Same H (upd H T (.tup [x, y])) := fun c o e => by rw [upd_ne (ne_of_none e hT)]; exact e
  exact ⟨s, .tup (.inl (.inl upd_same)) (.cons (Df.mono (Same.stab s) h1) (.cons (Df.mono (Same.stab s) h2) .nil))⟩
theorem it_zl {K : PySem.W.Frag} {H0 : Hp} {a b : Addr} {xs ys : List V} {ds es : List D} (h : FzL K H0 a xs) (df : DfAll K H0 xs ds) (h' : FzL K H0 b ys) (df' : DfAll K H0 ys es) : ItOk K H0 (zipD ds es) (Itz K a b) := fun H i st => by
  refine ⟨fun d e => ?_, fun hi => ⟨xs, ys, (st.fzL h).sq, (st.fzL h').sq, ?_⟩⟩
  · obtain ⟨x, y, rfl, e1, e2⟩ := zipD_get _ _ _ _ e
    obtain ⟨v, f1, dv⟩ := df.get e1
    obtain ⟨u, f2, du⟩ := df'.get e2
    refine ⟨⟨xs, ys, v, u, (st.fzL h).sq, (st.fzL h').sq, f1, f2⟩, fun w H' yl => ?_⟩
    obtain ⟨T, x', y', rfl, hT, rfl, q1, q2⟩ := yl
    have z1 := q1 xs (st.fzL h).sq
    have z2 := q2 ys (st.fzL h').sq
    rw [f1] at z1; cases z1
    rw [f2] at z2; cases z2
    exact pair_tup hT (Df.mono st dv) (Df.mono st du)
  · rw [zipD_len, ← df.length, ← df'.length] at hi
    omega
theorem it_zt {K : PySem.W.Frag} {H0 : Hp} {a b : Addr} {xs ys : List V} {ds es : List D} (h : SqT K H0 a xs) (df : DfAll K H0 xs ds) (h' : SqT K H0 b ys) (df' : DfAll K H0 ys es) : ItOk K H0 (zipD ds es) (RZ.ItzT K a b) := fun H i st => by
  refine ⟨fun d e => ?_, fun hi => ⟨xs, ys, (st.sqT h), (st.sqT h'), ?_⟩⟩
  · obtain ⟨x, y, rfl, e1, e2⟩ := zipD_get _ _ _ _ e
    obtain ⟨v, f1, dv⟩ := df.get e1
    obtain ⟨u, f2, du⟩ := df'.get e2
    refine ⟨⟨xs, ys, v, u, (st.sqT h), (st.sqT h'), f1, f2⟩, fun w H' yl => ?_⟩
    obtain ⟨T, x', y', rfl, hT, rfl, q1, q2⟩ := yl
    have z1 := q1 xs (st.sqT h)
    have z2 := q2 ys (st.sqT h')
    rw [f1] at z1; cases z1
    rw [f2] at z2; cases z2
    exact pair_tup hT (Df.mono st dv) (Df.mono st du)
  · rw [zipD_len, ← df.length, ← df'.length] at hi
    omega
theorem i_zip {elts : List Expr} {kk : Nat} {tpos : Pos} (hm : X.mg "zip" = none) (ha : IA X W [e, e2] am) (hg : Gl X "zip" := by rfl) (hs : starEach [e, e2] X.env = (false, eval e X.env) :: starEach [e2] X.env := by rfl) (hpl : (backTo pos (starEach [e2] X.env)).any (·.1) = false := by rfl) :
    II X (.Tuple elts kk tpos) W (.Call (.Name "zip" p) [e, e2] [] pos) (mItA zip2 am) :=
  PI.imp (RZ.pi_zipA hg hm ha hs hpl) fun σ H R h => by
    refine rdA.imp (rd_itA h) fun vs H1 ⟨ds, zs, df, e, q⟩ => ?_
    unfold zip2 at e
    split at e
    · cases df with
      | cons h1 h2 =>
        cases h2 with
        | cons h3 h4 =>
          cases h4
          cases e
          obtain ⟨p, xs, rfl, f1, d1⟩ := h1.list_at
          obtain ⟨p', ys, rfl, f2, d2⟩ := h3.list_at
          exact ⟨p, p', xs, ys, rfl, .inl ⟨f1.sq, f2.sq, q _ _ (L2.Same.refl _) (it_zl f1 d1 f2 d2)⟩⟩
    · cases df with
      | cons h1 h2 =>
        cases h2 with
        | cons h3 h4 =>
          cases h4
          cases e
          obtain ⟨p, xs, rfl, f1, d1⟩ := h1.tup_at
          obtain ⟨p', ys, rfl, f2, d2⟩ := h3.tup_at
          exact ⟨p, p', xs, ys, rfl, .inr ⟨f1, f2, q _ _ (L2.Same.refl _) (it_zt f1 d1 f2 d2)⟩⟩
    · cases e
end

/-! ### targets -/
def OutSame (vs : List Nat) (σ σ' : L2.St) : Prop := σ'.length = σ.length ∧ ∀ i, i ∉ vs → σ'[i]? = σ[i]?
theorem OutSame.trans {vs ws us : List Nat} {σ σ1 σ2 : L2.St} (h : OutSame vs σ σ1) (h' : OutSame ws σ1 σ2) (s1 : ∀ i ∈ vs, i ∈ us) (s2 : ∀ i ∈ ws, i ∈ us) : OutSame us σ σ2 :=
  ⟨h'.1.trans h.1, fun i hi => (h'.2 i fun z => hi (s2 i z)).trans (h.2 i fun z => hi (s1 i z))⟩
def rdG (K : PySem.W.Frag) (g : GM) (vs : List Nat) : TG := fun v σ H Q => ∃ φ ρ S r, EnvOk K φ H σ ρ ∧ StOk K φ H S ∧ RelR K φ H v r ∧ ∃ ρ' S', g r ρ S = some (ρ', S') ∧
  ∀ φ' σ' H', Grow φ H φ' H' → StOk K φ' H' S' → EnvOk K φ' H' σ' ρ' → OutSame vs σ σ' → Q σ' H'
def rdGs (K : PySem.W.Frag) (gs : List GM) (vs : List Nat) : TGs := fun us σ H Q => ∃ φ ρ S ds, EnvOk K φ H σ ρ ∧ StOk K φ H S ∧ DfAll K H us ds ∧ ∃ ρ' S', gAll gs ds ρ S = some (ρ', S') ∧
  ∀ φ' σ' H', Grow φ H φ' H' → StOk K φ' H' S' → EnvOk K φ' H' σ' ρ' → OutSame vs σ σ' → Q σ' H'
abbrev IG (X : Cx) (tg : Expr) (g : GM) (vs : List Nat) : Prop := PG X tg (rdG X.K g vs)
abbrev IGs (X : Cx) (ts : List Expr) (gs : List GM) (vs : List Nat) : Prop := PGs X ts (rdGs X.K gs vs)
theorem PG.imp {X : Cx} {tg : Expr} {t t' : TG} (h : PG X tg t) (f : ∀ v σ H Q, t' v σ H Q → t v σ H Q) : PG X tg t' := ⟨fun pins s σ H v u Q I r q => h.run pins s σ H v u Q I r (f v σ H Q q)⟩
theorem PG.or {X : Cx} {tg : Expr} {t t' : TG} (h : PG X tg t) (h' : PG X tg t') : PG X tg (fun v σ H Q => t v σ H Q ∨ t' v σ H Q) := ⟨fun pins s σ H v u Q I r q => q.elim (h.run pins s σ H v u Q I r) (h'.run pins s σ H v u Q I r)⟩
theorem PGs.imp {X : Cx} {ts : List Expr} {t t' : TGs} (h : PGs X ts t) (f : ∀ v σ H Q, t' v σ H Q → t v σ H Q) : PGs X ts t' := ⟨fun pins s σ H vs us Q I r q => h.run pins s σ H vs us Q I r (f vs σ H Q q)⟩
theorem EnvOk.set {K : PySem.W.Frag} {φ : List Addr} {H : Hp} {σ : L2.St} {ρ : Env} (h : EnvOk K φ H σ ρ) {v : V} {r : R} (q : RelR K φ H v r) (i : Nat) : EnvOk K φ H (σ.set i (some v)) (ρ.set i (some r)) where
  len := by simp [h.len]
  at_ := fun j r' e => by
    by_cases hj : i = j
    · subst hj
      have hl : i < ρ.length := by have := (List.getElem?_eq_some_iff.mp e).1; simpa using this
      rw [List.getElem?_set_self hl] at e
      cases e
      exact ⟨v, List.getElem?_set_self (by rw [h.len]; exact hl), q⟩
    · rw [List.getElem?_set_ne hj] at e ⊢
      exact h.at_ j r' e
theorem OutSame.set {σ : L2.St} (i : Nat) (x : Option V) : OutSame [i] σ (σ.set i x) := ⟨by simp, fun j hj => List.getElem?_set_ne (fun z => hj (by simp [z]))⟩
section
variable {X : Cx} {pos : Pos}
theorem ig_name (i : Nat) {x : Str} (hN : X.N.Nodup) (hi : X.N[i]? = some x := by rfl) (hx : Loc X.env.scope x := by first | exact Or.inl rfl | exact Or.inr rfl) (hf : X.fn x = true ∨ X.env.scope.names.lookup x = some .local := by first | exact .inl rfl | exact .inr rfl | assumption) :
    IG X (.Name x pos) (gN i) [i] := PG.imp (pg_name hN hi hx hf) fun v σ H Q h => by
  obtain ⟨φ, ρ, S, r, eo, so, q, ρ', S', e, k⟩ := h
  cases e
  exact k φ _ H (Grow.refl _ _) so (eo.set q i) (OutSame.set i _)
theorem igs_nil : IGs X [] [] [] := PGs.imp pgs_nil fun v σ H Q h => by
  obtain ⟨φ, ρ, S, ds, eo, so, q, ρ', S', e, k⟩ := h
  cases ds with
  | nil => cases q; cases e; exact ⟨rfl, k φ _ H (Grow.refl _ _) so eo ⟨rfl, fun _ _ => rfl⟩⟩
  | cons d ds => cases e
theorem igs_cons {t : Expr} {ts : List Expr} {g : GM} {gs : List GM} {vs ws : List Nat} (h1 : IG X t g vs) (h2 : IGs X ts gs ws)
    (hs : (assignEach (t :: ts) X.env).map (·.2) = assign t X.env :: (assignEach ts X.env).map (·.2) := by rfl) : IGs X (t :: ts) (g :: gs) (vs ++ ws) := PGs.imp (pgs_cons h1 h2 hs) fun us σ H Q h => by
  obtain ⟨φ, ρ, S, ds, eo, so, q, ρ', S', e, k⟩ := h
  cases ds with
  | nil => cases e
  | cons d ds =>
    cases q with
    | cons q1 q2 =>
      unfold gAll at e
      cases e1 : g (.d d) ρ S with
      | none => rw [e1] at e; cases e
      | some z =>
        obtain ⟨ρ1, S1⟩ := z
        rw [e1] at e
        refine ⟨_, _, rfl, φ, ρ, S, .d d, eo, so, q1, ρ1, S1, e1, fun φ1 σ1 H1 g1 so1 eo1 os1 => ?_⟩
        refine ⟨φ1, ρ1, S1, ds, eo1, so1, DfAll.mono g1.stab q2, ρ', S', e, fun φ2 σ2 H2 g2 so2 eo2 os2 => ?_⟩
        exact k φ2 σ2 H2 (g1.trans g2) so2 eo2 (os1.trans os2 (fun i hi => List.mem_append_left _ hi) fun i hi => List.mem_append_right _ hi)
theorem ig_tup {ts : List Expr} {k : Nat} {gs : List GM} {vs : List Nat} (h : IGs X ts gs vs) (hc : X.calm = true := by rfl) (hn : (assignEach ts X.env).length = gs.length := by rfl) (hst : (assignEach ts X.env).findIdx? (·.1) = none := by rfl) :
    IG X (.Tuple ts k pos) (gT gs) vs := PG.imp (PG.or (pg_tup hc h hn hst) (pg_lst hc h hn hst)) fun v σ H Q h => by
  obtain ⟨φ, ρ, S, r, eo, so, q, ρ', S', e, k⟩ := h
  have hlen : ∀ {gs : List GM} {ds : List D} {ρ : Env} {S : Store} {z}, gAll gs ds ρ S = some z → ds.length = gs.length := by
    intro gs
    induction gs with
    | nil => intro ds ρ S z e; cases ds with
      | nil => rfl
      | cons _ _ => cases e
    | cons g gs ih => intro ds ρ S z e; cases ds with
      | nil => cases e
      | cons d ds =>
        unfold gAll at e
        split at e
        · rw [List.length_cons, List.length_cons, ih e]
        · cases e
  cases r with
  | ref i => cases e
  | d x =>
    cases x with
    | tuple ds =>
      obtain ⟨a, xs, rfl, hs, df⟩ := Df.tup_at q
      exact .inl ⟨a, xs, rfl, hs, by rw [df.length]; exact hlen e, φ, ρ, S, ds, eo, so, df, ρ', S', e, k⟩
    | list ds =>
      obtain ⟨a, xs, rfl, hs, df⟩ := Df.list_at q
      exact .inr ⟨a, xs, rfl, hs.sq, by rw [df.length]; exact hlen e, φ, ρ, S, ds, eo, so, df, ρ', S', e, k⟩
    | _ => cases e
end

/-! ### comprehensions -/
theorem wipe_same {vs ws : List Nat} {σ σ' : L2.St} (h : OutSame vs σ σ') (s : ∀ i ∈ vs, i ∈ ws) : wipe σ' ws = wipe σ ws := by
  have key : ∀ (us : List Nat) (i : Nat), (wipe σ' us)[i]? = if i ∈ us then (if i < σ.length then some none else none) else σ'[i]? := by
    intro us
    induction us with
    | nil => intro i; simp [wipe]
    | cons u us ih =>
      intro i
      unfold wipe
      by_cases hi : u = i
      · subst hi
        by_cases hl : u < σ'.length
        · rw [List.getElem?_set_self (by rw [wipe_length]; exact hl)]
          simp [h.1 ▸ hl]
        · rw [List.getElem?_eq_none (by rw [List.length_set, wipe_length]; omega)]
          have : ¬ u < σ.length := by rw [← h.1]; exact hl
          simp [this]
      · rw [List.getElem?_set_ne hi, ih]
        have : i ≠ u := fun z => hi z.symm
        simp [this]
  have key2 : ∀ (us : List Nat) (i : Nat), (wipe σ us)[i]? = if i ∈ us then (if i < σ.length then some none else none) else σ[i]? := by
    intro us
    induction us with
    | nil => intro i; simp [wipe]
    | cons u us ih =>
      intro i
      unfold wipe
      by_cases hi : u = i
      · subst hi
        by_cases hl : u < σ.length
        · rw [List.getElem?_set_self (by rw [wipe_length]; exact hl)]
          simp [hl]
        · rw [List.getElem?_eq_none (by rw [List.length_set, wipe_length]; omega)]
          simp [hl]
      · rw [List.getElem?_set_ne hi, ih]
        have : i ≠ u := fun z => hi z.symm
        simp [this]
  refine List.ext_getElem? fun i => ?_
  rw [key, key2]
  by_cases hi : i ∈ ws
  · rw [if_pos hi, if_pos hi]
  · rw [if_neg hi, if_neg hi]
    exact h.2 i fun z => hi (s i z)
theorem wipe_at {j : Nat} (τ : L2.St) : ∀ {us : List Nat}, j ∈ us → (wipe τ us)[j]? = if j < τ.length then some none else none
  | [], hj => nomatch hj
  | u :: us, hj => by
    unfold wipe
    by_cases hu : u = j
    · subst hu
      by_cases hl : u < τ.length
      · rw [List.getElem?_set_self (by rw [wipe_length]; exact hl), if_pos hl]
      · rw [List.getElem?_eq_none (by rw [List.length_set, wipe_length]; omega), if_neg hl]
    · rw [List.getElem?_set_ne hu]
      exact wipe_at τ ((List.mem_cons.mp hj).resolve_left fun z => hu z.symm)
theorem wipe_wipe (us : List Nat) (σ : L2.St) : wipe (wipe σ us) us = wipe σ us := by
  refine List.ext_getElem? fun j => ?_
  by_cases hj : j ∈ us
  · rw [wipe_at _ hj, wipe_at _ hj, wipe_length]
  · rw [wipe_out hj]
theorem EnvOk.wipe {K : PySem.W.Frag} {φ : List Addr} {H : Hp} {σ : L2.St} {ρ : Env} (h : EnvOk K φ H σ ρ) : ∀ vs : List Nat, EnvOk K φ H (L2.wipe σ vs) (wipeR ρ vs)
  | [] => h
  | v :: vs => by
    have ih := EnvOk.wipe h vs
    refine ⟨by unfold L2.wipe wipeR; simp [ih.len], fun i r e => ?_⟩
    unfold wipeR at e
    by_cases hi : v = i
    · subst hi
      have hl : v < (wipeR ρ vs).length := by have := (List.getElem?_eq_some_iff.mp e).1; simpa using this
      rw [List.getElem?_set_self hl] at e
      cases e
    · rw [List.getElem?_set_ne hi] at e
      obtain ⟨w, e1, q⟩ := ih.at_ i r e
      exact ⟨w, by unfold L2.wipe; rw [List.getElem?_set_ne hi]; exact e1, q⟩
/-- no exception is wished for -/
abbrev W0 : WX := fun _ _ _ _ => False
theorem EndR.ofOk {α : Type} {K : PySem.W.Frag} {mg : Str → Option Value} {W : WX} {φ : List Addr} {H : Hp} {σ : L2.St} {P : α → List Addr → Store → Hp → Prop} {r : Res α} {a : α} {S : Store} (e : r = .ok a S)
    (h : ∀ φ' H', Grow φ H φ' H' → StOk K φ' H' S → P a φ' S H') : EndR K mg W φ H σ P r := by rw [e]; exact h
theorem noEx_ok {α : Type} {r : Res α} {a : α} {S : Store} (h : noEx r = .ok a S) : r = .ok a S := by
  cases r with
  | ok b S' => exact h
  | ex _ _ => cases h
  | no => cases h
theorem bind_okE {α β : Type} {r : Res α} {f : α → Store → Res β} {b : β} {S : Store} (h : r.bind f = .ok b S) : ∃ a S1, r = .ok a S1 ∧ f a S1 = .ok b S := by
  cases r with
  | ok a S1 => exact ⟨a, S1, rfl, h⟩
  | ex _ _ => cases h
  | no => cases h
theorem rd_lc {K : PySem.W.Frag} {mg : Str → Option Value} {W : WX} {it : IM} {own gv : List Nat} {g : GM} {c : TM} {el : EM} {σ : L2.St} {H : Hp} {Q : VK} (hv : ∀ i ∈ gv, i ∈ own) (h : rdN K mg W (mLc it own g c el) σ H Q) :
    tLc (rdI K mg W it) (rdG K g gv) (rdT K mg W0 c) (rdE K mg W0 el) own σ H Q := by
  obtain ⟨φ, ρ, S, eo, so, h⟩ := h
  refine ⟨φ, ρ, S, eo, so, ?_⟩
  unfold mLc at h
  cases q : it ρ S with
  | ex x S1 => rw [q] at h; exact h
  | no => rw [q] at h; exact h
  | ok ds S1 =>
    rw [q] at h
    simp only [Res.bind_ok] at h
    cases q2 : noEx (lcLoop (wipeR ρ own) g c el ds S1) with
    | ex x S2 => rw [q2] at h; exact h.elim
    | no => rw [q2] at h; exact h.elim
    | ok ys S2 =>
      rw [q2] at h
      simp only at h
      by_cases hz : ys.length ≤ sizeLine
      · rw [if_pos hz] at h
        have q3 := noEx_ok q2
        intro φ1 H1 g1 so1 J H2 s12 iok D hD
        have g2 : Grow φ H φ1 H2 := g1.trans (Grow.same s12)
        have so2 : StOk K φ1 H2 S1 := so1.same s12
        have hD1 : D ∉ φ1 := so2.free hD
        have hDn : H D = none := Grow.none g2 hD hD1
        -- the invariant
        refine ⟨fun i m H' => m = ds.length - i ∧ i ≤ ds.length ∧ ∃ φ' S' acc accd rest, Grow φ1 H2 φ' H' ∧ StOk K φ' H' S' ∧ D ∉ φ' ∧ H' D = some (.lst acc) ∧ DfAll K H' acc accd ∧ lcLoop (wipeR ρ own) g c el (ds.drop i) S' = .ok rest S2 ∧ accd ++ rest = ys,
          ⟨ds.length, by simp, Nat.zero_le _, φ1, S1, [], [], ys, ?_, ?_, hD1, upd_same, .nil, by simpa using q3, rfl⟩, ?_⟩
        · exact ⟨List.prefix_refl _, fun a o e _ => by rw [upd_ne (ne_of_none e hD)]; exact e, fun a ha => .inl ha⟩
        · exact so2.same fun a o e => by rw [upd_ne (ne_of_none e hD)]; exact e
        · rintro i m H' ⟨rfl, hi, φ', S', acc, accd, rest, g3, so3, hD3, eD, dfa, ql, ea⟩
          have st : Stab H2 H' := g3.stab
          obtain ⟨ik, ie⟩ := iok H' i st
          by_cases hlt : i < ds.length
          · right
            obtain ⟨d, hd⟩ : ∃ d, ds[i]? = some d := ⟨ds[i], List.getElem?_eq_getElem hlt⟩
            have hdrop : ds.drop i = d :: ds.drop (i + 1) := by
              rw [List.drop_eq_getElem_cons hlt]
              rw [List.getElem?_eq_getElem hlt] at hd
              cases hd; rfl
            obtain ⟨go, yl⟩ := ik d hd
            refine ⟨go, fun H'' => i + 1 ≤ ds.length ∧ ∃ φ' S' acc accd rest, Grow φ1 H2 φ' H'' ∧ StOk K φ' H'' S' ∧ D ∉ φ' ∧ H'' D = some (.lst acc) ∧ DfAll K H'' acc accd ∧ lcLoop (wipeR ρ own) g c el (ds.drop (i + 1)) S' = .ok rest S2 ∧ accd ++ rest = ys,
              fun H'' hn => ⟨ds.length - (i + 1), by omega, rfl, hn.1, hn.2⟩, fun x H4 y => ?_⟩
            obtain ⟨s34, dx⟩ := yl x H4 y
            rw [hdrop] at ql
            unfold lcLoop at ql
            cases eg : g (.d d) (wipeR ρ own) S' with
            | none => rw [eg] at ql; cases ql
            | some z =>
              obtain ⟨ρ5, S5⟩ := z
              rw [eg] at ql
              simp only at ql
              obtain ⟨k, S6, ec, ql⟩ := bind_okE ql
              have g4 : Grow φ1 H2 φ' H4 := g3.trans (Grow.same s34)
              have eow : EnvOk K φ' H4 (wipe σ own) (wipeR ρ own) := ((eo.grow g2).grow g4).wipe own
              refine ⟨φ', wipeR ρ own, S', .d d, eow, so3.same s34, dx, ρ5, S5, eg, fun φ5 σ5 H5 g5 so5 eo5 os5 => ⟨?_, ?_⟩⟩
              · rw [wipe_same os5 hv]
                exact wipe_wipe own σ
              · have g45 : Grow φ1 H2 φ5 H5 := g4.trans g5
                have hD5 : D ∉ φ5 := fun hm => by
                  rcases g5.new D hm with z | z
                  · exact hD3 z
                  · rw [s34 _ _ eD] at z; cases z
                have eD5 : H5 D = some (.lst acc) := g5.keep D _ (s34 _ _ eD) (.inr hD3)
                have dfa5 : DfAll K H5 acc accd := DfAll.mono ((Same.stab s34).trans g5.stab) dfa
                refine ⟨φ5, ρ5, S5, eo5, so5, EndR.ofOk ec fun φ6 H6 g6 so6 => ?_⟩
                have g46 := g45.trans g6
                have hD6 : D ∉ φ6 := fun hm => by
                  rcases g6.new D hm with z | z
                  · exact hD5 z
                  · rw [eD5] at z; cases z
                have eD6 : H6 D = some (.lst acc) := g6.keep D _ eD5 (.inr hD5)
                have dfa6 : DfAll K H6 acc accd := DfAll.mono g6.stab dfa5
                cases k with
                | false =>
                  refine iteF ?_
                  exact ⟨hlt, φ6, S6, acc, accd, rest, g46, so6, hD6, eD6, dfa6, ql, ea⟩
                | true =>
                  refine iteT ?_
                  simp only at ql
                  obtain ⟨r, S7, er, ql⟩ := bind_okE ql
                  refine ⟨φ6, ρ5, S6, eo5.grow g6, so6, EndR.ofOk er fun φ7 H7 g7 so7 v r7 => ?_⟩
                  cases er2 : rdR r with
                  | none => rw [er2] at ql; cases ql
                  | some y7 =>
                    rw [er2] at ql
                    simp only at ql
                    obtain ⟨rest', S8, e8, e9⟩ := bind_okE ql
                    cases e9
                    have hD7 : D ∉ φ7 := fun hm => by
                      rcases g7.new D hm with z | z
                      · exact hD6 z
                      · rw [eD6] at z; cases z
                    have eD7 : H7 D = some (.lst acc) := g7.keep D _ eD6 (.inr hD6)
                    have dfa7 : DfAll K H7 acc accd := DfAll.mono g7.stab dfa6
                    have dv := r7.plain er2
                    have sb : Stab H7 (upd H7 D (.lst (acc ++ [v]))) := upd_stab eD7 rfl
                    refine ⟨acc, eD7, ?_, hlt, φ7, S7, acc ++ [v], accd ++ [y7], rest', (g46.trans g7).frz hD, so7.upd eD7 rfl hD7, hD7, upd_same, DfAll.mono sb (dfa7.append (.cons dv .nil)), e8, by rw [← ea]; simp⟩
                    have : acc.length + 1 ≤ ys.length := by rw [← ea, dfa.length]; simp
                    omega
          · left
            have hi' : i = ds.length := by omega
            subst hi'
            refine ⟨ie (Nat.le_refl _), ?_⟩
            rw [List.drop_length] at ql
            cases ql
            rw [List.append_nil] at ea
            subst ea
            exact h φ' H' (g2.trans g3) so3 D acc hDn hD3 eD dfa
      · rw [if_neg hz] at h; exact h.elim
end Pi

set_option Elab.async false
set_option linter.all false
set_option maxRecDepth 100000
/-! Pi5: statements, defs, calls. -/
namespace Pi
open PySem PySem.Spec PyProof.Rows L2

/-- name = [..] on one line -/
def mSetL (i : Nat) (l : IM) : SM := fun ρ S => (l ρ S).out ρ fun ds S1 => if i < ρ.length then .nx (ρ.set i (some (.d (.list ds)))) S1 else .no

section
variable {K : PySem.W.Frag} {mg : Str → Option Value} {W : WX} {σ : L2.St} {H : Hp} {φ : List Addr} {D : Ends}
theorem EndS.later {φ1 : List Addr} {H1 : Hp} {o : Out} (g : Grow φ H φ1 H1) (h : EndS K mg W φ H D o) : EndS K mg W φ1 H1 D o := by
  cases o with
  | nx ρ' S' => exact fun φ' σ' H' g' so eo => h φ' σ' H' (g.trans g') so eo
  | rt r S' => exact fun φ' v H' g' so q => h φ' v H' (g.trans g') so q
  | ex x ρ' S' => exact fun φ' σ' H' cls dA g' so eo q => h φ' σ' H' cls dA (g.trans g') so eo q
  | no => exact h
theorem EndS.out {α : Type} {r : Res α} {ρ : Env} {f : α → Store → Out} (eo : EnvOk K φ H σ ρ) (h : EndS K mg W φ H D (r.out ρ f)) : EndR K mg W φ H σ (fun a φ1 S1 H1 => EndS K mg W φ1 H1 D (f a S1)) r := by
  cases r with
  | ok a S1 => exact fun φ1 H1 g so => EndS.later g h
  | ex x S1 => exact fun φ1 H1 cls dA g so q => h φ1 σ H1 cls dA g so (eo.grow g) q
  | no => exact h
theorem EndS.seq {b : SM} {o : Out} (h : EndS K mg W φ H D (match o with | .nx ρ1 S1 => b ρ1 S1 | o => o)) : EndS K mg W φ H { D with nx := rdS K mg W b D } o := by
  cases o with
  | nx ρ1 S1 => exact fun φ' σ' H' g so eo => ⟨φ', ρ1, S1, eo, so, EndS.later g h⟩
  | rt r S' => exact h
  | ex x ρ' S' => exact h
  | no => exact h
theorem EndS.now {ρ : Env} {S : Store} (so : StOk K φ H S) (eo : EnvOk K φ H σ ρ) (h : EndS K mg W φ H D (.nx ρ S)) : D.nx σ H := h φ σ H (Grow.refl _ _) so eo
theorem EndS.ret {r : R} {S : Store} {v : V} (so : StOk K φ H S) (q : RelR K φ H v r) (h : EndS K mg W φ H D (.rt r S)) : D.rt v H := h φ v H (Grow.refl _ _) so q
/-- only what follows and what is returned are asked -/
theorem EndS.ends {D' : Ends} {o : Out} (h1 : D'.nx = D.nx) (h2 : D'.rt = D.rt) (h : EndS K mg W φ H D o) : EndS K mg W φ H D' o := by
  cases o with
  | nx ρ1 S1 => show ∀ φ' σ' H', Grow φ H φ' H' → StOk K φ' H' S1 → EnvOk K φ' H' σ' ρ1 → D'.nx σ' H'; rw [h1]; exact h
  | rt r S' => show ∀ φ' v H', Grow φ H φ' H' → StOk K φ' H' S' → RelR K φ' H' v r → D'.rt v H'; rw [h2]; exact h
  | ex x ρ' S' => exact h
  | no => exact h
end
section
variable {X : Cx} {W : WX} {elt tg iter c : Expr} {ifs : List Expr} {scope : Scope} {own : List (Str × Nat)} {pos : Pos} {it : IM} {g : GM} {gv : List Nat} {cm : TM} {el : EM}
theorem i_ts0 : PTs X [] (rdT X.K X.mg W mYes) := ⟨fun pins s σ H Q I h => pts_nil.run pins s σ H Q I (by obtain ⟨φ, ρ, S, eo, so, h⟩ := h; exact EndR.now so h)⟩
theorem i_ts1 (h : IT X W c cm) : PTs X [c] (rdT X.K X.mg W cm) := pts_one h
theorem i_lc (hN : X.N.Nodup) (hi : II X tg W iter it) (ok : BlkOk X.N X.env.scope scope own) (hv : ∀ i ∈ gv, i ∈ own.map (·.2))
    (hg : ∀ (s : Shared) (H : Hp) (C : Addr) (cl : List (Str × Addr)) (fp : List Addr), IG (X.blk s H scope (compEnvC scope cl C X.env) fp) tg g gv) (ht : ∀ (s : Shared) (H : Hp) (C : Addr) (cl : List (Str × Addr)) (fp : List Addr), PTs (X.blk s H scope (compEnvC scope cl C X.env) fp) ifs (rdT X.K X.mg W0 cm))
    (he : ∀ (s : Shared) (H : Hp) (C : Addr) (cl : List (Str × Addr)) (fp : List Addr), IE (X.blk s H scope (compEnvC scope cl C X.env) fp) W0 elt el) (hc : X.calm = true := by rfl) (hs : ∀ x, foldedSetIterable iter X.env x = pure x := by intro _; rfl) :
    IN X W (.ListComp elt [⟨tg, iter, ifs, 0⟩] scope pos) (mLc it (own.map (·.2)) g cm el) := PE.imp (pe_lc hc hN hi ok hg ht he hs) fun _ _ _ h => rd_lc hv h
theorem ps_frz {st : Stmt} {t : TE} {i : Nat} (h : PS X st (tAsg t (gName i))) : PS X st (fun D σ H => t σ H fun v H1 => ∃ a xs, (σ.set i (some v))[i]? = some (some (.ref a)) ∧ H1 a = some (.lst xs) ∧ ∀ o, D.nx (σ.set i (some v)) (upd H1 a (.frz o (.lst xs)))) := by
  refine ⟨fun pins s σ H D I q => thn (h.run pins s σ H { D with nx := fun σ' H' => ∃ a xs, σ'[i]? = some (some (.ref a)) ∧ H' a = some (.lst xs) ∧ ∀ o, D.nx σ' (upd H' a (.frz o (.lst xs))) } I q) fun f s1 r => ?_⟩
  cases f with
  | next =>
    obtain ⟨σ', H', I', a, xs, e, ea, k⟩ := r
    obtain ⟨o, I2⟩ := I'.freeze ea
    exact ⟨_, _, I2, k o⟩
  | ret v => exact r
  | brk => exact r
  | cont => exact r
theorem is_setL {st : Stmt} {i : Nat} {l : IM} (h : PS X st (tAsg (rdN X.K X.mg W l) (gName i))) : IS X W st (mSetL i l) := PS.imp (ps_frz h) fun D σ H h => by
  obtain ⟨φ, ρ, S, eo, so, h⟩ := h
  refine ⟨φ, ρ, S, eo, so, ?_⟩
  unfold mSetL at h
  cases q : l ρ S with
  | ok ds S1 =>
    rw [q] at h
    simp only [Res.out_ok] at h
    split at h
    · rename_i hl
      exact fun φ1 H1 g1 so1 p vs n np ep df => ⟨p, vs, List.getElem?_set_self (by rw [eo.len]; exact hl), ep, fun o =>
        h φ1 _ _ (g1.frz n) (so1.upd ep rfl np) ((eo.grow (g1.frz n)).set (r := .d (.list ds)) (.lst (.inl ⟨o, upd_same⟩) (DfAll.mono (upd_stab ep rfl) df)) i)⟩
    · exact h.elim
  | ex x S1 => rw [q] at h; exact fun φ1 H1 cls dA g1 so1 q => h φ1 σ H1 cls dA g1 so1 (eo.grow g1) q
  | no => rw [q] at h; exact h
/-- .. with the names' swap -/
theorem is_lcS {i : Nat} {y : Str} {py spos : Pos} (hN : X.N.Nodup) (hi : II X tg W iter it) (ok : BlkOk X.N X.env.scope scope own) (hv : ∀ i ∈ gv, i ∈ own.map (·.2))
    (hg : ∀ (s : Shared) (H : Hp) (C : Addr) (cl : List (Str × Addr)) (fp : List Addr), IG (X.blk s H scope (compEnvC scope cl C X.env) fp) tg g gv) (ht : ∀ (s : Shared) (H : Hp) (C : Addr) (cl : List (Str × Addr)) (fp : List Addr), PTs (X.blk s H scope (compEnvC scope cl C X.env) fp) ifs (rdT X.K X.mg W0 cm))
    (he : ∀ (s : Shared) (H : Hp) (C : Addr) (cl : List (Str × Addr)) (fp : List Addr), IE (X.blk s H scope (compEnvC scope cl C X.env) fp) W0 elt el)
    (hsw : swapsWith (.ListComp elt [⟨tg, iter, ifs, 0⟩] scope pos) (some (.Name y py)) spos.line X.env = pure true) (hy : X.N[i]? = some y := by rfl) (hyl : X.env.scope.names.lookup y = some .local := by rfl) (hc : X.calm = true := by rfl) (hs : ∀ x, foldedSetIterable iter X.env x = pure x := by intro _; rfl) :
    PS X (.Assign [.Name y py] (.ListComp elt [⟨tg, iter, ifs, 0⟩] scope pos) spos) (tAsg (rdN X.K X.mg W (mLc it (own.map (·.2)) g cm el)) (gName i)) :=
  PS.imp (ps_setLc hc hN hy hyl hsw hi ok hg ht he hs) fun D σ H h => rd_lc hv h
theorem is_lcN {st : Stmt} {i : Nat} {l : IM} (h : PS X st (tAsg (rdN X.K X.mg W l) (gName i))) : IS X W st (mAsg (gN i) (mNew l)) := PS.imp h fun D σ H h => by
  refine rd_new ?_
  obtain ⟨φ, ρ, S, eo, so, h⟩ := h
  exact ⟨φ, ρ, S, eo, so, (EndS.out eo h).imp fun r φ1 S1 H1 _ g1 so1 h1 v r1 => EndS.now so1 ((eo.grow g1).set r1 i) h1⟩
end

/-! ### statements -/
section
variable {X : Cx} {W : WX} {e c tg : Expr} {st : Stmt} {rest a b : List Stmt} {m : EM} {cm : TM} {sa sb : SM} {pos : Pos} {g : GM} {gv : List Nat} {it : IM}
theorem is_nil : ISs X W [] mSkip := PSs.imp pss_nil fun D σ H h => by
  obtain ⟨φ, ρ, S, eo, so, h⟩ := h
  exact EndS.now so eo h
theorem is_cons (h1 : IS X W st sa) (h2 : ISs X W rest sb) : ISs X W (st :: rest) (mSeq sa sb) := PSs.imp (pss_cons h1 h2) fun D σ H h => by
  obtain ⟨φ, ρ, S, eo, so, h⟩ := h
  exact ⟨φ, ρ, S, eo, so, EndS.seq h⟩
theorem is_last (h1 : IS X W st sa) : ISs X W [st] sa := pss_one h1
theorem is_pass : IS X W (.Pass pos) mSkip := PS.imp ps_pass fun D σ H h => by
  obtain ⟨φ, ρ, S, eo, so, h⟩ := h
  exact EndS.now so eo h
theorem is_expr (h : IE X W e m) (hs : swapsWith e none pos.line X.env = pure false := by rfl) : IS X W (.Expr e pos) (mExpr m) := PS.imp (ps_expr h hs) fun D σ H h => by
  obtain ⟨φ, ρ, S, eo, so, h⟩ := h
  exact ⟨φ, ρ, S, eo, so, (EndS.out eo h).imp fun r φ1 S1 H1 _ g1 so1 h1 v r1 => EndS.now so1 (eo.grow g1) h1⟩
theorem is_ret (h : IE X W e m) : IS X W (.Return (some e) pos) (mRet m) := PS.imp (ps_ret h) fun D σ H h => by
  obtain ⟨φ, ρ, S, eo, so, h⟩ := h
  exact ⟨φ, ρ, S, eo, so, (EndS.out eo h).imp fun r φ1 S1 H1 _ g1 so1 h1 v r1 => EndS.ret so1 r1 h1⟩
theorem is_retN : IS X W (.Return none pos) mRetN := PS.imp ps_retN fun D σ H h => by
  obtain ⟨φ, ρ, S, eo, so, h⟩ := h
  exact EndS.ret (r := .d .none) so .non h
theorem is_if (hc : IT X W c cm) (ha : ISs X W a sa) (hb : ISs X W b sb) : IS X W (.If c a b pos) (mIf cm sa sb) := PS.imp (ps_if hc ha hb) fun D σ H h => by
  obtain ⟨φ, ρ, S, eo, so, h⟩ := h
  refine ⟨φ, ρ, S, eo, so, (EndS.out eo h).imp fun k φ1 S1 H1 _ g1 so1 h1 => ?_⟩
  cases k with
  | true => exact iteT ⟨φ1, ρ, S1, eo.grow g1, so1, h1⟩
  | false => exact iteF ⟨φ1, ρ, S1, eo.grow g1, so1, h1⟩
theorem is_set (i : Nat) {x : Str} {pos' : Pos} (hN : X.N.Nodup) (h : IE X W e m) (hi : X.N[i]? = some x := by rfl) (hx : Loc X.env.scope x := by first | exact Or.inl rfl | exact Or.inr rfl) (hs : swapsWith e (some (.Name x pos')) pos.line X.env = pure false := by rfl)
    (hf : X.fn x = true ∨ X.env.scope.names.lookup x = some .local := by first | exact .inl rfl | exact .inr rfl | assumption) : IS X W (.Assign [.Name x pos'] e pos) (mAsg (gN i) m) := PS.imp (ps_set hN hi hx h hs hf) fun D σ H h => by
  obtain ⟨φ, ρ, S, eo, so, h⟩ := h
  exact ⟨φ, ρ, S, eo, so, (EndS.out eo h).imp fun r φ1 S1 H1 _ g1 so1 h1 v r1 => EndS.now so1 ((eo.grow g1).set r1 i) h1⟩
theorem is_asg (hg : IG X tg g gv) (h : IE X W e m) (hs : swapsWithSole [tg] e pos.line X.env = pure false := by rfl) (hw : swappedStores [tg] e X.env = pure none := by rfl) (h1 : (assignEach [tg] X.env).map (·.2) = [assign tg X.env] := by rfl) :
    IS X W (.Assign [tg] e pos) (mAsg g m) := PS.imp (ps_asg h hg hs hw h1) fun D σ H h => by
  obtain ⟨φ, ρ, S, eo, so, h⟩ := h
  refine ⟨φ, ρ, S, eo, so, (EndS.out eo h).imp fun r φ1 S1 H1 _ g1 so1 h1 v r1 => ?_⟩
  split at h1
  · rename_i ρ2 S2 e2
    exact ⟨φ1, ρ, S1, r, eo.grow g1, so1, r1, ρ2, S2, e2, fun φ' σ' H' g2 so2 eo2 _ => h1 φ' σ' H' g2 so2 eo2⟩
  · exact h1.elim
theorem paired2 {φ : List Addr} {K : PySem.W.Frag} {H : Hp} {vs : List V} {rs : List R} (h : RelRs K φ H vs rs) (hl : rs.length = 2) : ∃ v w r s, vs = [v, w] ∧ rs = [r, s] ∧ RelR K φ H v r ∧ RelR K φ H w s := by
  cases h with
  | nil => simp at hl
  | cons h1 t =>
    cases t with
    | nil => simp at hl
    | cons h2 t =>
      cases t with
      | nil => exact ⟨_, _, _, _, rfl, rfl, h1, h2⟩
      | cons _ _ => simp at hl
theorem paired3 {φ : List Addr} {K : PySem.W.Frag} {H : Hp} {vs : List V} {rs : List R} (h : RelRs K φ H vs rs) (hl : rs.length = 3) : ∃ v w u r s t, vs = [v, w, u] ∧ rs = [r, s, t] ∧ RelR K φ H v r ∧ RelR K φ H w s ∧ RelR K φ H u t := by
  cases h with
  | nil => simp at hl
  | cons h1 t =>
    obtain ⟨v, w, r, s, e1, e2, q1, q2⟩ := paired2 t (by simpa using hl)
    subst e1; subst e2
    exact ⟨_, _, _, _, _, _, rfl, rfl, h1, q1, q2⟩
theorem is_par (i j : Nat) {x y : Str} {p q : Expr} {am : AM} {px py pt : Pos} {kt k2 pt2} (hN : X.N.Nodup) (ha : IA X W [p, q] am)
    (hw : swappedStores [.Tuple [.Name x px, .Name y py] kt pt] (.Tuple [p, q] k2 pt2) X.env = pure (some [x, y])) (hi : X.N[i]? = some x := by rfl) (hj : X.N[j]? = some y := by rfl) (hij : i ≠ j := by decide)
    (hx : X.env.scope.names.lookup x = some .local := by rfl) (hy : X.env.scope.names.lookup y = some .local := by rfl) (hc : X.calm = true := by rfl)
    (hs : swapsWithSole [.Tuple [.Name x px, .Name y py] kt pt] (.Tuple [p, q] k2 pt2) pos.line X.env = pure false := by rfl) :
    IS X W (.Assign [.Tuple [.Name x px, .Name y py] kt pt] (.Tuple [p, q] k2 pt2) pos) (mPar [i, j] am) := PS.imp (ps_par hc hN hi hj hij hx hy ha hw hs) fun D σ H h => by
  obtain ⟨φ, ρ, S, eo, so, h⟩ := h
  refine ⟨φ, ρ, S, eo, so, (EndS.out eo h).imp fun rs φ1 S1 H1 _ g1 so1 h1 vs r1 => ?_⟩
  split at h1
  · rename_i hl
    obtain ⟨v, w, r, s, rfl, rfl, q1, q2⟩ := paired2 r1 hl
    exact ⟨v, w, rfl, EndS.now so1 (((eo.grow g1).set q1 i).set q2 j) h1⟩
  · exact h1.elim
theorem is_par3 (i j l : Nat) {x y z : Str} {p q r : Expr} {am : AM} {px py pz pt : Pos} {kt k2 pt2} (hN : X.N.Nodup) (ha : IA X W [p, q, r] am)
    (hw : swappedStores [.Tuple [.Name x px, .Name y py, .Name z pz] kt pt] (.Tuple [p, q, r] k2 pt2) X.env = pure (some [x, y, z])) (hi : X.N[i]? = some x := by rfl) (hj : X.N[j]? = some y := by rfl) (hl : X.N[l]? = some z := by rfl) (hij : i ≠ j := by decide) (hil : i ≠ l := by decide) (hjl : j ≠ l := by decide)
    (hx : X.env.scope.names.lookup x = some .local := by rfl) (hy : X.env.scope.names.lookup y = some .local := by rfl) (hz : X.env.scope.names.lookup z = some .local := by rfl) (hc : X.calm = true := by rfl)
    (hs : swapsWithSole [.Tuple [.Name x px, .Name y py, .Name z pz] kt pt] (.Tuple [p, q, r] k2 pt2) pos.line X.env = pure false := by rfl) :
    IS X W (.Assign [.Tuple [.Name x px, .Name y py, .Name z pz] kt pt] (.Tuple [p, q, r] k2 pt2) pos) (mPar [i, j, l] am) := PS.imp (ps_par3 hc hN hi hj hl hij hil hjl hx hy hz ha hw hs) fun D σ H h => by
  obtain ⟨φ, ρ, S, eo, so, h⟩ := h
  refine ⟨φ, ρ, S, eo, so, (EndS.out eo h).imp fun rs φ1 S1 H1 _ g1 so1 h1 vs r1 => ?_⟩
  split at h1
  · rename_i hl
    obtain ⟨v, w, u, r, s, t, rfl, rfl, q1, q2, q3⟩ := paired3 r1 hl
    exact ⟨v, w, u, rfl, EndS.now so1 ((((eo.grow g1).set q1 i).set q2 j).set q3 l) h1⟩
  · exact h1.elim
theorem is_for (hp : PassesOwn (model X.prog X.w) X.A X.env X.xe) (hi : II X tg W e it) (hg : IG X tg g gv) (hb : ISs X W b sb) (hc : X.calm = true := by rfl) (hs : ∀ x, foldedSetIterable e X.env x = pure x := by intro _; rfl) :
    IS X W (.For tg e b [] pos) (mFor it g sb) := PS.imp (ps_for hp hc hi hg hb hs) fun D σ H h => by
  obtain ⟨φ, ρ, S, eo, so, h⟩ := h
  refine ⟨φ, ρ, S, eo, so, (EndS.out eo h).imp fun ds φ1 S1 H1 _ g1 so1 h1 J H2 s12 iok => ?_⟩
  have g2 : Grow φ1 H1 φ1 H2 := Grow.same s12
  refine ⟨fun i m σ' H' => m = ds.length - i ∧ i ≤ ds.length ∧ ∃ φ' ρ' S', Grow φ1 H2 φ' H' ∧ EnvOk X.K φ' H' σ' ρ' ∧ StOk X.K φ' H' S' ∧ EndS X.K X.mg W φ' H' D (forLoop g sb (ds.drop i) ρ' S'),
    ⟨ds.length, by simp, Nat.zero_le _, φ1, ρ, S1, Grow.refl _ _, (eo.grow g1).grow g2, so1.same s12, EndS.later g2 h1⟩, ?_⟩
  rintro i m σ' H' ⟨rfl, hi', φ', ρ', S', g3, eo3, so3, h3⟩
  obtain ⟨ik, ie⟩ := iok H' i g3.stab
  by_cases hlt : i < ds.length
  · right
    have hd : ds[i]? = some ds[i] := List.getElem?_eq_getElem hlt
    obtain ⟨go, yl⟩ := ik _ hd
    rw [List.drop_eq_getElem_cons hlt] at h3
    unfold forLoop at h3
    refine ⟨go, fun σ'' H'' => ∃ φ' ρ' S', Grow φ1 H2 φ' H'' ∧ EnvOk X.K φ' H'' σ'' ρ' ∧ StOk X.K φ' H'' S' ∧ EndS X.K X.mg W φ' H'' D (forLoop g sb (ds.drop (i + 1)) ρ' S'),
      fun σ'' H'' hn => ⟨ds.length - (i + 1), by omega, rfl, hlt, hn⟩, fun x H4 y => ?_⟩
    obtain ⟨s34, dx⟩ := yl x H4 y
    have g4 : Grow φ' H' φ' H4 := Grow.same s34
    cases eg : g (.d ds[i]) ρ' S' with
    | none => rw [eg] at h3; exact h3.elim
    | some z =>
      obtain ⟨ρ5, S5⟩ := z
      rw [eg] at h3
      simp only at h3
      refine ⟨φ', ρ', S', .d ds[i], eo3.grow g4, so3.same s34, dx, ρ5, S5, eg, fun φ5 σ5 H5 g5 so5 eo5 _ => ⟨φ5, ρ5, S5, eo5, so5, ?_⟩⟩
      have h5 := EndS.later (g4.trans g5) h3
      cases eb : sb ρ5 S5 with
      | nx ρ6 S6 =>
        rw [eb] at h5
        exact fun φ6 σ6 H6 g6 so6 eo6 => ⟨φ6, ρ6, S6, ((g3.trans g4).trans g5).trans g6, eo6, so6, EndS.later g6 h5⟩
      | rt r S6 => rw [eb] at h5; exact h5
      | ex x ρ6 S6 => rw [eb] at h5; exact h5
      | no => rw [eb] at h5; exact h5
  · left
    have hi2 : i = ds.length := by omega
    subst hi2
    refine ⟨ie (Nat.le_refl _), ?_⟩
    rw [List.drop_length] at h3
    exact EndS.now so3 eo3 h3
theorem is_while (n : Nat) (hp : PassesOwn (model X.prog X.w) X.A X.env X.xe) (hc : IT X W c cm) (hb : ISs X W b sb) : IS X W (.While c b [] pos) (mWhile n cm sb) := PS.imp (ps_while hp hc hb) fun D σ H h => by
  obtain ⟨φ, ρ, S, eo, so, h⟩ := h
  refine ⟨fun m σ' H' => ∃ φ' ρ' S', EnvOk X.K φ' H' σ' ρ' ∧ StOk X.K φ' H' S' ∧ EndS X.K X.mg W φ' H' D (whileLoop cm sb m ρ' S'), ⟨n, φ, ρ, S, eo, so, h⟩, ?_⟩
  rintro m σ' H' ⟨φ', ρ', S', eo', so', h'⟩
  cases m with
  | zero => exact h'.elim
  | succ m =>
    unfold whileLoop at h'
    refine ⟨φ', ρ', S', eo', so', (EndS.out eo' h').imp fun k φ1 S1 H1 _ g1 so1 h1 => ?_⟩
    cases k with
    | false => exact iteF (EndS.now so1 (eo'.grow g1) h1)
    | true =>
      refine iteT ⟨fun σ2 H2 => ∃ φ2 ρ2 S2, EnvOk X.K φ2 H2 σ2 ρ2 ∧ StOk X.K φ2 H2 S2 ∧ EndS X.K X.mg W φ2 H2 D (whileLoop cm sb m ρ2 S2), fun σ2 H2 hn => ⟨m, Nat.lt_succ_self m, hn⟩, φ1, ρ', S1, eo'.grow g1, so1, ?_⟩
      simp only at h1
      cases eb : sb ρ' S1 with
      | nx ρ6 S6 =>
        rw [eb] at h1
        exact fun φ6 σ6 H6 g6 so6 eo6 => ⟨φ6, ρ6, S6, eo6, so6, EndS.later g6 h1⟩
      | rt r S6 => rw [eb] at h1; exact h1
      | ex x ρ6 S6 => rw [eb] at h1; exact h1
      | no => rw [eb] at h1; exact h1
/-- raise X('..') -/
theorem is_raise {x : String} {m' : Str} {j : Nat} {p p2 pos2 : Pos} {C : Addr} {bmB : List Value} {B newId initId : String} (tk : Takes X W) (F : ExcBaseFacts B newId initId bmB) (q : PySem.W.excIn X.K C bmB newId = true) (gC : X.mg (Str.ofString x) = some (.ref C)) (kC : PySem.W.keepIn X.K (.ref C) = true)
    (r : Raises X (.ref C)) (hg : Gl X (Str.ofString x) := by rfl) (hc : X.calm = true := by rfl) (hdb : (Str.ofString x == ("__debug__" : Str)) = false := by decide) :
    IS X W (.Raise (some (.Call (.Name (Str.ofString x) p) [.Constant (.str m') j p2] [] pos)) none pos2) (mRaise x) := PS.imp (ps_raise hc tk (pmk_own F q gC kC r hg hdb)) fun D σ H h => by
  obtain ⟨φ, ρ, S, eo, so, h⟩ := h
  exact h φ σ H _ none (Grow.refl _ _) so eo ⟨C, gC, rfl, .inl rfl⟩
end

/-! ### defs -/
/-- what is wanted of a def's answer -/
def EndF (K : PySem.W.Frag) (mg : Str → Option Value) (φ : List Addr) (H : Hp) (Q : VK) (E : XK) : Res R → Prop
  | .ok r S' => ∀ φ' v H', Grow φ H φ' H' → StOk K φ' H' S' → RelR K φ' H' v r → Q v H'
  | .ex x S' => ∀ φ' H' cls dA, Grow φ H φ' H' → StOk K φ' H' S' → XnOk mg K H' x cls dA → E cls dA H'
  | .no => False
/-- a def of n parameters does what F says -/
def spF (K : PySem.W.Frag) (mg : Str → Option Value) (n : Nat) (F : Fn) : Sp := fun vs H Q E => ∃ φ rs S, vs.length = n ∧ StOk K φ H S ∧ RelRs K φ H vs rs ∧ EndF K mg φ H Q E (F rs S)
/-- a global def -/
structure Fx (P : Program) (w : World) (K : PySem.W.Frag) (mg : Str → Option Value) (base : Heap) (x : Str) (n k : Nat) (F : Fn) : Prop where
  ex : ∃ f fd ps, mg x = some (.ref f) ∧ PySem.W.keepIn K (.ref f) = true ∧ Binds K fd ps [] ∧ ps.length = n ∧ FnOk P w K mg base (L2.CX P w) k f fd ps (spF K mg n F)
theorem Fx.mono {P : Program} {w : World} {K : PySem.W.Frag} {mg : Str → Option Value} {base : Heap} {x : Str} {n j k : Nat} {F : Fn} (h : Fx P w K mg base x n j F) (hk : j ≤ k) : Fx P w K mg base x n k F := by
  obtain ⟨f, fd, ps, h1, h2, h3, h4, h5⟩ := h.ex
  exact ⟨f, fd, ps, h1, h2, h3, h4, h5.mono hk⟩
theorem RelRs.length {K : PySem.W.Frag} {φ : List Addr} {H : Hp} : ∀ {vs : List V} {rs : List R}, RelRs K φ H vs rs → vs.length = rs.length
  | _, _, .nil => rfl
  | _, _, .cons _ t => by rw [List.length_cons, List.length_cons, RelRs.length t]
theorem RelRs.get {K : PySem.W.Frag} {φ : List Addr} {H : Hp} : ∀ {vs : List V} {rs : List R} {i : Nat} {r : R}, RelRs K φ H vs rs → rs[i]? = some r → ∃ v, vs[i]? = some v ∧ RelR K φ H v r
  | _, _, _, _, .nil, e => by simp at e
  | _, _, 0, _, .cons h _, e => by simp at e; subst e; exact ⟨_, rfl, h⟩
  | _, _, i + 1, r, .cons _ t, e => by
    obtain ⟨v, h1, h2⟩ := RelRs.get (i := i) (r := r) t (by simpa using e)
    exact ⟨v, by simpa using h1, h2⟩
theorem DfAll.rel {K : PySem.W.Frag} {φ : List Addr} {H : Hp} : ∀ {vs : List V} {ds : List D}, DfAll K H vs ds → RelRs K φ H vs (ds.map .d)
  | _, _, .nil => .nil
  | _, _, .cons h t => .cons h (DfAll.rel t)
theorem env_start {K : PySem.W.Frag} {φ : List Addr} {H : Hp} {vs : List V} {rs : List R} {N : List Str} (h : RelRs K φ H vs rs) : EnvOk K φ H (L2.start N vs) (startR N.length rs) where
  len := by unfold L2.start startR; simp [RelRs.length h]
  at_ := fun i r e => by
    unfold startR at e
    by_cases hi : i < rs.length
    · rw [List.getElem?_append_left (by simpa using hi)] at e
      rw [List.getElem?_map] at e
      cases q : rs[i]? with
      | none => rw [q] at e; cases e
      | some r' =>
        rw [q] at e; cases e
        obtain ⟨v, h1, h2⟩ := RelRs.get h q
        refine ⟨v, ?_, h2⟩
        unfold L2.start
        rw [List.getElem?_append_left (by simpa [RelRs.length h] using hi), List.getElem?_map, h1]; rfl
    · rw [List.getElem?_append_right (by simpa using hi)] at e
      rw [List.getElem?_replicate] at e
      split at e <;> cases e
abbrev cxF (P : Program) (w : World) (K : PySem.W.Frag) (mg : Str → Option Value) (base : Heap) (N : List Str) (qual : Str) (sc : Scope) (f : Addr) (cdv : Value) (A : Around) (outer : List PySem.Env) (s : Shared) (H : Hp) (E : XK) : Cx := cxOf (L2.CX P w) P w K mg base N qual sc f cdv A outer s H E
abbrev WF (E : XK) : WX := fun cls d _ H => E cls d H
/-- THE RULE of a def: its body's term -/
theorem fn_rule {P : Program} {w : World} {K : PySem.W.Frag} {mg : Str → Option Value} {base : Heap} {x qual : Str} {params : Arguments} {body : List Stmt} {scope : Scope} {f : Addr} {fd : FuncData} {N ps : List Str} {k : Nat} {b : SM} (F : FunD K x qual params body scope [] [] f fd) (S : FnScope N ps scope)
    (hb : ∀ (cdv : Value) (A : Around) (outer : List PySem.Env) (s : Shared) (H : Hp) (E : XK), Room k (A.deeper (envOfC qual scope s.heap.objs.size f cdv)) → Takes (cxF P w K mg base N qual scope f cdv A outer s H E) (WF E) →
      PassesOwn (model P w) (cxF P w K mg base N qual scope f cdv A outer s H E).A (cxF P w K mg base N qual scope f cdv A outer s H E).env (cxF P w K mg base N qual scope f cdv A outer s H E).xe →
      ISs (cxF P w K mg base N qual scope f cdv A outer s H E) (WF E) body b) : FnOk P w K mg base (L2.CX P w) (k + 1) f fd ps (spF K mg ps.length (fnR N.length b)) := by
  refine F.ok S (fun vs H Q E h => ?_) (fun cdv A outer s H vs Q E hr h => ?_)
  · obtain ⟨_, _, _, h1, _⟩ := h; exact h1
  · obtain ⟨φ, rs, S0, h1, so, q, he⟩ := h
    refine ⟨_, hb cdv A outer s H E hr (takes_of rfl rfl rfl rfl) (passes_of rfl), φ, startR N.length rs, S0, env_start q, so, ?_⟩
    unfold fnR at he
    cases e : b (startR N.length rs) S0 with
    | nx ρ' S' => rw [e] at he; exact fun φ' σ' H' g so' _ => he φ' _ H' g so' .non
    | rt r S' => rw [e] at he; exact he
    | ex y ρ' S' => rw [e] at he; exact fun φ' σ' H' cls dA g so' _ q => he φ' H' cls dA g so' q
    | no => rw [e] at he; exact he
theorem fx_of {P : Program} {w : World} {K : PySem.W.Frag} {mg : Str → Option Value} {base : Heap} {x : Str} {n k : Nat} {F : Fn} {f : Addr} {fd : FuncData} {ps : List Str} (h1 : mg x = some (.ref f)) (h2 : PySem.W.keepIn K (.ref f) = true) (h3 : Binds K fd ps []) (h4 : ps.length = n)
    (h5 : FnOk P w K mg base (L2.CX P w) k f fd ps (spF K mg n F)) : Fx P w K mg base x n k F := ⟨f, fd, ps, h1, h2, h3, h4, h5⟩

/-! ### calls -/
section
variable {X : Cx} {W : WX} {x : Str} {n k : Nat} {F : Fn} {e : Expr} {es : List Expr} {am : AM} {p pos : Pos}
theorem call_core (h : Fx X.prog X.w X.K X.mg X.base x n k F) (hr : Room k X.A) (tk : Takes X W) (ha : IA X W (e :: es) am) (hg : Gl X x := by rfl) (hdb : (x == ("__debug__" : Str)) = false := by decide)
    (he : starEach (e :: es) X.env = (false, eval e X.env) :: starEach es X.env := by rfl) (hpl : (backTo pos (starEach es X.env)).any (·.1) = false := by rfl) :
    PE X (.Call (.Name x p) (e :: es) [] pos) (tCallS (spF X.K X.mg n F) (WE W) (rdA X.K X.mg W am)) := by
  obtain ⟨f, fd, ps, h1, h2, h3, h4, h5⟩ := h.ex
  exact pe_callS h5 hr hg h1 h2 h3 (fun σ => passAt tk σ) ha hdb he hpl
theorem rd_callS {K : PySem.W.Frag} {mg : Str → Option Value} {σ : L2.St} {H : Hp} {Q : VK} (hn : ∀ ρ S rs S1, am ρ S = .ok rs S1 → rs.length = n) (h : rdE K mg W (mCallS F am) σ H Q) : tCallS (spF K mg n F) (WE W) (rdA K mg W am) σ H Q := by
  obtain ⟨φ, ρ, S, eo, so, h⟩ := h
  refine ⟨φ, ρ, S, eo, so, (EndR.bind h).imp fun rs φ1 S1 H1 ea g1 so1 h1 vs r1 => ?_⟩
  refine ⟨φ1, rs, S1, by rw [RelRs.length r1]; exact hn _ _ _ _ ea, so1, r1, ?_⟩
  cases q : F rs S1 with
  | ok r S2 => rw [q] at h1; exact fun φ' v H' g so' r' => h1 φ' H' g so' v r'
  | ex y S2 => rw [q] at h1; exact fun φ' H' cls dA g so' q' => h1 φ' H' cls dA g so' q'
  | no => rw [q] at h1; exact h1
theorem rd_callP {K : PySem.W.Frag} {mg : Str → Option Value} {σ : L2.St} {H : Hp} {Q : VK} (hn : ∀ ρ S rs S1, am ρ S = .ok rs S1 → rs.length = n) (h : rdE K mg W (mCallP F am) σ H Q) : tCallS (spF K mg n F) (WE W) (rdA K mg W am) σ H Q := by
  obtain ⟨φ, ρ, S, eo, so, h⟩ := h
  refine ⟨φ, ρ, S, eo, so, (EndR.bind h).imp fun rs φ1 S1 H1 ea g1 so1 h1 vs r1 => ?_⟩
  split at h1
  · rename_i ds q
    have df := all_df r1 q
    have rel : RelRs K [] H1 vs (ds.map .d) := df.rel
    refine ⟨[], ds.map .d, [], by rw [RelRs.length r1]; exact hn _ _ _ _ ea, StOk.nil, rel, ?_⟩
    unfold runP at h1
    have same : ∀ {φ' : List Addr} {H' : Hp}, Grow [] H1 φ' H' → L2.Same H1 H' := fun g a o e => g.keep a o e (.inr (by simp))
    cases q2 : F (ds.map .d) [] with
    | ok r S2 =>
      rw [q2] at h1
      cases r with
      | d z => exact fun φ' v H' g so' r' => h1 φ1 H' (Grow.same (same g)) (so1.same (same g)) v r'
      | ref i => exact h1.elim
    | ex y S2 =>
      rw [q2] at h1
      exact fun φ' H' cls dA g so' q' => h1 φ1 H' cls dA (Grow.same (same g)) (so1.same (same g)) q'
    | no => rw [q2] at h1; exact h1
  · exact h1.elim
theorem i_callP (h : Fx X.prog X.w X.K X.mg X.base x n k F) (hr : Room k X.A) (tk : Takes X W) (ha : IA X W (e :: es) am) (hn : ∀ ρ S rs S1, am ρ S = .ok rs S1 → rs.length = n) (hg : Gl X x := by rfl) (hdb : (x == ("__debug__" : Str)) = false := by decide)
    (he : starEach (e :: es) X.env = (false, eval e X.env) :: starEach es X.env := by rfl) (hpl : (backTo pos (starEach es X.env)).any (·.1) = false := by rfl) : IE X W (.Call (.Name x p) (e :: es) [] pos) (mCallP F am) :=
  PE.imp (call_core h hr tk ha hg hdb he hpl) fun _ _ _ h => rd_callP hn h
theorem i_callS (h : Fx X.prog X.w X.K X.mg X.base x n k F) (hr : Room k X.A) (tk : Takes X W) (ha : IA X W (e :: es) am) (hn : ∀ ρ S rs S1, am ρ S = .ok rs S1 → rs.length = n) (hg : Gl X x := by rfl) (hdb : (x == ("__debug__" : Str)) = false := by decide)
    (he : starEach (e :: es) X.env = (false, eval e X.env) :: starEach es X.env := by rfl) (hpl : (backTo pos (starEach es X.env)).any (·.1) = false := by rfl) : IE X W (.Call (.Name x p) (e :: es) [] pos) (mCallS F am) :=
  PE.imp (call_core h hr tk ha hg hdb he hpl) fun _ _ _ h => rd_callS hn h
theorem len_nil : ∀ ρ S rs S1, mNil ρ S = .ok rs S1 → rs.length = 0 := fun ρ S rs S1 h => by cases h; rfl
theorem len_cons {a : EM} {r : AM} {n : Nat} (hr : ∀ ρ S rs S1, r ρ S = .ok rs S1 → rs.length = n) : ∀ ρ S rs S1, mCons a r ρ S = .ok rs S1 → rs.length = n + 1 := fun ρ S rs S1 h => by
  obtain ⟨x, S2, _, h2⟩ := bind_okE h
  obtain ⟨xs, S3, h3, h4⟩ := bind_okE h2
  cases h4
  rw [List.length_cons, hr _ _ _ _ h3]
end
end Pi

set_option Elab.async false
set_option linter.all false
set_option maxRecDepth 100000
/-! Pi6: operators and builtins over plain data. -/
namespace Pi
open PySem PySem.Spec PyProof.Rows L2

/-! ### what they give -/
def mulOk (a b : Int) : Bool := decide (-(2 ^ 64) < a ∧ a < 2 ^ 64) || decide (-(2 ^ 64) < b ∧ b < 2 ^ 64) || decide (a.natAbs.log2 + b.natAbs.log2 < 1000000)
def addD : D → D → Option D
  | .int a, .int b => some (.int (a + b))
  | .str a, .str b => if a.length + b.length ≤ sizeLine then some (.str (a ++ b)) else none
  | .tuple xs, .tuple ys => if xs.length + ys.length ≤ sizeLine then some (.tuple (xs ++ ys)) else none
  | .list xs, .list ys => if xs.length + ys.length ≤ sizeLine then some (.list (xs ++ ys)) else none
  | _, _ => none
def subD : D → D → Option D
  | .int a, .int b => some (.int (a - b))
  | _, _ => none
def repD (xs : List D) (k : Int) : List D := (List.replicate k.toNat xs).flatten
def mulD : D → D → Option D
  | .int a, .int b => if mulOk a b then some (.int (a * b)) else none
  | .tuple xs, .int k => if decide (-(2 ^ 63) ≤ k) && decide (k < 2 ^ 63) && decide (xs.length * k.toNat ≤ sizeLine) then some (.tuple (repD xs k)) else none
  | .list xs, .int k => if decide (-(2 ^ 63) ≤ k) && decide (k < 2 ^ 63) && decide (xs.length * k.toNat ≤ sizeLine) then some (.list (repD xs k)) else none
  | _, _ => none
def divD : D → D → Option D
  | .int a, .int b => if decide (0 < b) && decide (b.natAbs.log2 < 9000) then some (.int (a / b)) else none
  | _, _ => none
def modD : D → D → Option D
  | .int a, .int b => if 0 < b then some (.int (a % b)) else none
  | _, _ => none
def powD : D → D → Option D
  | .int a, .int b => if decide (0 ≤ b) && decide (b ≤ 1000000) && decide (a.natAbs < 2 ^ 64) then some (.int (a ^ b.toNat)) else none
  | _, _ => none
def flatP : D → Bool
  | .none => true
  | .bool _ => true
  | .int _ => true
  | .str _ => true
  | _ => false
def eqB (a b : D) : Option Bool := if flatP a && flatP b then some (PyData.eqv a b) else if SeqAt.shaped a && SeqAt.shaped b then some (PyData.eqv a b) else none
def eqD (a b : D) : Option D := (eqB a b).map .bool
def neD (a b : D) : Option D := (eqB a b).map fun k => .bool (!k)
def ltD : D → D → Option D
  | .int a, .int b => some (.bool (decide (a < b)))
  | .str a, .str b => some (.bool (decide (a.cps.toList < b.cps.toList)))
  | .tuple xs, .tuple ys => if PySem.W.alike (.tuple xs) (.tuple ys) && decide ((PyData.tuple xs).depth ≤ 64) then some (.bool (PySem.W.dataLt (.tuple xs) (.tuple ys))) else none
  | _, _ => none
def leD : D → D → Option D
  | .int a, .int b => some (.bool (decide (a ≤ b)))
  | _, _ => none
def gtD : D → D → Option D
  | .int a, .int b => some (.bool (decide (b < a)))
  | _, _ => none
def geD : D → D → Option D
  | .int a, .int b => some (.bool (decide (b ≤ a)))
  | _, _ => none
def isNon : D → Bool
  | .none => true
  | _ => false
def isNoneD (d : D) : Option D := some (.bool (isNon d))
def notNoneD (d : D) : Option D := some (.bool (!isNon d))
def isBD : D → D → Option D
  | .bool a, .bool b => some (.bool (decide (a = b)))
  | _, _ => none
def notBD : D → D → Option D
  | .bool a, .bool b => some (.bool (!decide (a = b)))
  | _, _ => none
def inB (x : D) : D → Option Bool
  | .list ys => if flatP x && ys.all flatP then some (ys.any fun y => PyData.eqv y x) else if SeqAt.shaped x && SeqAt.shaped (.list ys) then some (ys.any fun y => PyData.eqv y x) else none
  | .tuple ys => if flatP x && ys.all flatP then some (ys.any fun y => PyData.eqv y x) else none
  | .str z => match x with
    | .str ⟨⟨[c]⟩⟩ => some (decide (c ∈ z.cps.toList))
    | _ => none
  | _ => none
def inD (x y : D) : Option D := (inB x y).map .bool
def notInD (x y : D) : Option D := (inB x y).map fun k => .bool (!k)
def isD (T : String) (d : D) : Bool := match d with
  | .none => T == "NoneType"
  | .bool _ => T == "bool" || T == "int"
  | .int _ => T == "int"
  | .str _ => T == "str"
  | .list _ => T == "list"
  | .tuple _ => T == "tuple"
  | .dict _ => T == "dict"
def isiD (T : String) (d : D) : Option D := some (.bool (isD T d))
def ixN (n : Nat) (i : Int) : Option Nat := L2.ixN n i
def atD (xs : List D) (i : Int) : Option D := match L2.ixN xs.length i with
  | some j => xs[j]?
  | none => none
def ixD : D → D → Option D
  | .list xs, .int i => atD xs i
  | .tuple xs, .int i => atD xs i
  | .str z, .int i => if z.length ≤ sizeLine then (match L2.ixN z.cps.toList.length i with
    | some j => (z.cps.toList[j]?).map fun c => .str ⟨#[c]⟩
    | none => none) else none
  | _, _ => none
def lenD : List D → Option D
  | [.list xs] => some (.int xs.length)
  | [.tuple xs] => some (.int xs.length)
  | [.str x] => if x.length ≤ sizeLine then some (.int x.length) else none
  | _ => none
def absD : List D → Option D
  | [.int i] => some (.int (if i < 0 then -i else i))
  | _ => none
def boolsD : List D → Option (List Bool)
  | [] => some []
  | .bool b :: r => (boolsD r).map (b :: ·)
  | _ :: _ => none
def intsD : List D → Option (List Int)
  | [] => some []
  | .int b :: r => (intsD r).map (b :: ·)
  | _ :: _ => none
def allD1 : List D → Option D
  | [.list xs] => (boolsD xs).map fun bs => .bool (bs.all id)
  | _ => none
def anyD1 : List D → Option D
  | [.list xs] => (boolsD xs).map fun bs => .bool (bs.any id)
  | _ => none
def maxI : List Int → Int
  | [] => 0
  | [x] => x
  | x :: r => max x (maxI r)
def minI : List Int → Int
  | [] => 0
  | [x] => x
  | x :: r => min x (minI r)
def minOf (xs : List D) : Option D := match intsD xs with
  | some (x :: r) => some (.int (minI (x :: r)))
  | _ => none
def maxOf (xs : List D) : Option D := match intsD xs with
  | some (x :: r) => some (.int (maxI (x :: r)))
  | _ => none
def minD : List D → Option D
  | [.int a, .int b] => some (.int (min a b))
  | [.list xs] => minOf xs
  | [.tuple xs] => minOf xs
  | _ => none
def maxD : List D → Option D
  | [.int a, .int b] => some (.int (max a b))
  | [.list xs] => maxOf xs
  | [.tuple xs] => maxOf xs
  | _ => none
def sumD : List D → Option D
  | [.list xs] => (intsD xs).map fun ns => .int ns.sum
  | [.tuple xs] => (intsD xs).map fun ns => .int ns.sum
  | _ => none
def intD : List D → Option D
  | [.int i] => some (.int i)
  | [.bool b] => some (.int (if b then 1 else 0))
  | _ => none
def tupleD : List D → Option D
  | [.list xs] => some (.tuple xs)
  | [.tuple xs] => some (.tuple xs)
  | _ => none
def listD : List D → Option (List D)
  | [.list xs] => some xs
  | [.tuple xs] => some xs
  | _ => none

/-! ### what may be a new list too -/
def opRdF (K : PySem.W.Frag) (g : D → D → Option D) : R2 := fun x y H Q => ∃ d1 d2 z, Dn K H x d1 ∧ Dn K H y d2 ∧ g d1 d2 = some z ∧ (∀ v H', L2.Same H H' → Df K H' v z → Q v H') ∧
  ∀ p vs zs H', z = .list zs → L2.Same H H' → H p = none → H' p = some (.lst vs) → DfAll K H' vs zs → Q (.ref p) H'
def QF (Q : VK) : VK := fun v H1 => Q v H1 ∨ ∃ a xs, v = .ref a ∧ H1 a = some (.lst xs) ∧ ∀ o, Q v (upd H1 a (.frz o (.lst xs)))
section
variable {X : Cx} {W : WX} {a b e : Expr} {ma mb : EM} {pos : Pos}
theorem OpR.toF {f : Value → Value → Sem Value} {K : PySem.W.Frag} {g : D → D → Option D} (h : OpR X f (opRd K g)) : OpR X f (opRdF K g) := fun pins s σ H x y v u Q I rx ry ⟨d1, d2, z, h1, h2, h3, h4, _⟩ => h pins s σ H x y v u Q I rx ry ⟨d1, d2, z, h1, h2, h3, h4⟩
theorem pe_frzF {t : TE} (h : PE X e t) : PE X e (fun σ H Q => t σ H (QF Q)) := by
  refine ⟨fun pins s σ H Q I q => thn (h.run pins s σ H _ I q) fun u s1 ⟨v, H1, I1, r, q⟩ => ?_⟩
  rcases q with q | ⟨a, xs, e, ea, q⟩
  · exact ⟨v, H1, I1, r, q⟩
  · obtain ⟨o, I2⟩ := I1.freeze ea
    exact ⟨v, _, I2, r, q o⟩
theorem same_frz {H H' : Hp} {p : Addr} {o : HO} (s : L2.Same H H') (n : H p = none) : L2.Same H (upd H' p o) := fun c u e => by rw [upd_ne (ne_of_none e n)]; exact s c u e
theorem rd_op2F {K : PySem.W.Frag} {mg : Str → Option Value} {g : D → D → Option D} {σ : L2.St} {H : Hp} {Q : VK} (h : rdE K mg W (mOp2 g ma mb) σ H Q) : tOp (opRdF K g) (rdE K mg W ma) (rdE K mg W mb) σ H (QF Q) := by
  obtain ⟨φ, ρ, S, eo, so, h⟩ := h
  refine ⟨φ, ρ, S, eo, so, (EndR.bind h).imp fun x φ1 S1 H1 _ g1 so1 h1 v1 r1 => ?_⟩
  refine ⟨φ1, ρ, S1, eo.grow g1, so1, (EndR.bind h1).imp fun y φ2 S2 H2 _ g2 so2 h2 v2 r2 => ?_⟩
  split at h2
  · rename_i x' y' q1 q2
    split at h2
    · rename_i z q3
      refine ⟨x', y', z, (r1.grow g2).rd so2 q1, r2.rd so2 q2, q3, fun v H' s d => .inl (h2 φ2 H' (Grow.same s) (so2.same s) v d), fun p vs zs H' ez s n ep df => .inr ⟨p, vs, rfl, ep, fun o => ?_⟩⟩
      subst ez
      have s' : L2.Same H2 (upd H' p (.frz o (.lst vs))) := same_frz s n
      exact h2 φ2 _ (Grow.same s') (so2.same s') _ (.lst (.inl ⟨o, upd_same⟩) (DfAll.mono (upd_stab ep rfl) df))
    · exact h2.elim
  · exact h2.elim
theorem i_bin {op : Operator} {g : D → D → Option D} (ho : OpR X (binaryOp op) (opRdF X.K g)) (ha : IE X W a ma) (hb : IE X W b mb) : IE X W (.BinOp a op b pos) (mOp2 g ma mb) :=
  PE.imp (pe_frzF (pe_op ho ha hb)) fun _ _ _ h => rd_op2F h
end

/-! ### the rules -/
section
variable {X : Cx}
theorem Dn.tuple_ref {K : PySem.W.Frag} {H : Hp} {v : V} {ds : List D} (h : Dn K H v (.tuple ds)) : ∃ a xs, v = .ref a ∧ SqT K H a xs ∧ DfAll K H xs ds := h.tup_at
theorem df_nil {K : PySem.W.Frag} {H : Hp} {xs : List V} {ds : List D} (h : DfAll K H xs ds) : xs = [] ↔ ds = [] := by cases h <;> simp
theorem new_tup {K : PySem.W.Frag} {H : Hp} {p : Addr} {xs : List V} {ds : List D} (hp : H p = none) (h : DfAll K H xs ds) : L2.Same H (upd H p (.tup xs)) ∧ Df K (upd H p (.tup xs)) (.ref p) (.tuple ds) := by
  have s : L2.Same H (upd H p (.tup xs)) := fun c o e => by rw [upd_ne (ne_of_none e hp)]; exact e
  exact ⟨s, .tup (.inl (.inl upd_same)) (DfAll.mono (Same.stab s) h)⟩
theorem new_lst {K : PySem.W.Frag} {H : Hp} {p : Addr} {xs : List V} {ds : List D} (hp : H p = none) (h : DfAll K H xs ds) : L2.Same H (upd H p (.lst xs)) ∧ DfAll K (upd H p (.lst xs)) xs ds := by
  have s : L2.Same H (upd H p (.lst xs)) := fun c o e => by rw [upd_ne (ne_of_none e hp)]; exact e
  exact ⟨s, DfAll.mono (Same.stab s) h⟩
/-- a list may be live or frozen: HandS's + and * of lists ask live ones; these read either -/
theorem cat_any {pins : List (Addr × Obj)} {s : Shared} {σ : L2.St} {H : Hp} {l b : Addr} {xs zs : List V} {Q : VK} (I : Inv X pins σ H s) (h1 : SqL X.K H l xs) (h2 : SqL X.K H b zs) (hz : xs.length + zs.length ≤ sizeLine)
    (q : ∀ p, H p = none → Q (.ref p) (upd H p (.lst (xs ++ zs)))) : wpAny (model X.prog X.w) X.A (binaryOp .Add (.ref l) (.ref b)) (EP X pins σ Q) X.xe s := by
  obtain ⟨its, r, pl, _⟩ := I.list h1
  obtain ⟨its2, r2, pl2, _⟩ := I.list h2
  obtain ⟨⟨cls, dd, data, sl⟩, n, ho, hc, _, hd⟩ := pl
  obtain ⟨⟨cls2, dd2, data2, sl2⟩, n2, ho2, hc2, _, hd2⟩ := pl2
  simp only at hc hd hc2 hd2
  subst hc hd hc2 hd2
  have hl : xs.length = its.length := r.length
  have hl2 : zs.length = its2.length := r2.length
  have e : its.toArray ++ its2.toArray = (its ++ its2).toArray := by simp
  refine concat_meets ⟨_, ho, rfl⟩ ⟨_, ho2, rfl⟩ noFill_list_add seq_list_add PySem.F.slot_list_add PySem.F.entry_list_add (PySem.F.args_list_add_2 _ _) (list_addW l b its.toArray its2.toArray n n2 dd dd2 sl sl2 (by simp; omega)) ⟨ho, ho2, ?_⟩
  rw [e]
  exact ⟨.ref _, _, I.lnew (t' := s.toks) (r.append r2) (by rw [List.length_append]; exact hz), rfl, q _ I.fresh⟩
theorem o_add : OpR X (binaryOp .Add) (opRdF X.K addD) := by
  intro pins s σ H x y v u Q I rx ry h
  obtain ⟨d1, d2, z, h1, h2, e, q, qL⟩ := h
  unfold addD at e
  split at e
  · cases e; cases h1.int_eq; cases h2.int_eq
    exact op_add pins s σ H _ _ v u Q I rx ry ⟨_, _, rfl, rfl, q _ H (L2.Same.refl _) (.int _)⟩
  · split at e
    · rename_i hz
      cases e; cases h1.str_eq; cases h2.str_eq
      exact op_add_str pins s σ H _ _ v u Q I rx ry ⟨_, _, rfl, rfl, hz, q _ H (L2.Same.refl _) (.str _)⟩
    · cases e
  · split at e
    · rename_i hz
      cases e
      obtain ⟨a, xs, rfl, s1, t1⟩ := h1.tup_at
      obtain ⟨b, ys, rfl, s2, t2⟩ := h2.tup_at
      refine op_catA pins s σ H _ _ v u Q I rx ry ⟨a, b, xs, ys, rfl, rfl, s1, s2, by rw [t1.length, t2.length]; exact hz, fun ex => ?_, fun _ ey => ?_, fun _ _ p hp => ?_⟩
      · subst ex; cases t1
        exact q _ H (L2.Same.refl _) (by simpa using Df.tup s2 t2)
      · subst ey; cases t2
        exact q _ H (L2.Same.refl _) (by simpa using Df.tup s1 t1)
      · obtain ⟨sm, d⟩ := new_tup hp (t1.append t2)
        exact q _ _ sm d
    · cases e
  · split at e
    · rename_i hz
      cases e
      obtain ⟨a, xs, rfl, s1, t1⟩ := h1.list_at
      obtain ⟨b, ys, rfl, s2, t2⟩ := h2.list_at
      cases rx; cases ry
      refine cat_any I s1 s2 (by rw [t1.length, t2.length]; exact hz) fun p hp => ?_
      obtain ⟨sm, d⟩ := new_lst hp (t1.append t2)
      exact qL p _ _ _ rfl sm hp upd_same d
    · cases e
  · cases e
theorem o_sub : OpR X (binaryOp .Sub) (opRdF X.K subD) := by
  intro pins s σ H x y v u Q I rx ry h
  obtain ⟨d1, d2, z, h1, h2, e, q, qL⟩ := h
  unfold subD at e
  split at e
  · cases e; cases h1.int_eq; cases h2.int_eq
    exact op_sub pins s σ H _ _ v u Q I rx ry ⟨_, _, rfl, rfl, q _ H (L2.Same.refl _) (.int _)⟩
  · cases e
theorem o_div : OpR X (binaryOp .FloorDiv) (opRdF X.K divD) := by
  intro pins s σ H x y v u Q I rx ry h
  obtain ⟨d1, d2, z, h1, h2, e, q, qL⟩ := h
  unfold divD at e
  split at e
  · split at e
    · rename_i hz
      rw [Bool.and_eq_true] at hz
      cases e; cases h1.int_eq; cases h2.int_eq
      exact op_fdivW pins s σ H _ _ v u Q I rx ry ⟨_, _, rfl, rfl, ⟨of_decide_eq_true hz.1, of_decide_eq_true hz.2⟩, q _ H (L2.Same.refl _) (.int _)⟩
    · cases e
  · cases e
theorem o_mod : OpR X (binaryOp .Mod) (opRdF X.K modD) := by
  intro pins s σ H x y v u Q I rx ry h
  obtain ⟨d1, d2, z, h1, h2, e, q, qL⟩ := h
  unfold modD at e
  split at e
  · split at e
    · rename_i hz
      cases e; cases h1.int_eq; cases h2.int_eq
      exact op_mod pins s σ H _ _ v u Q I rx ry ⟨_, _, rfl, rfl, hz, q _ H (L2.Same.refl _) (.int _)⟩
    · cases e
  · cases e
theorem o_pow : OpR X (binaryOp .Pow) (opRdF X.K powD) := by
  intro pins s σ H x y v u Q I rx ry h
  obtain ⟨d1, d2, z, h1, h2, e, q, qL⟩ := h
  unfold powD at e
  split at e
  · split at e
    · rename_i hz
      rw [Bool.and_eq_true, Bool.and_eq_true] at hz
      cases e; cases h1.int_eq; cases h2.int_eq
      exact op_pow pins s σ H _ _ v u Q I rx ry ⟨_, _, rfl, rfl, ⟨of_decide_eq_true hz.1.1, of_decide_eq_true hz.1.2, of_decide_eq_true hz.2⟩, q _ H (L2.Same.refl _) (.int _)⟩
    · cases e
  · cases e
end
/-! ### tuple * int, list * int -/
theorem tuple_mulS (l : Addr) (items : Array Value) (n : Nat) (dd : Option Addr) (sl : Array (Option Value)) (x : Int) (u : Tok) (c0 : (decide (x < -(2 ^ 63)) || decide (x ≥ 2 ^ 63)) = false) (c1 : (items.isEmpty || x == 1) = true) :
    Meets (Builtin.«tuple.__mul__» ⟨[.ref l, .int x u], []⟩) (fun _ R s => s.heap.get? l = some { cls := .type "tuple", dict := dd, data := .seq items n, slots := sl } ∧ R (.ok (.ret (Value.ref l))) s) :=
  .of_wp fun prog w A R s h => by
    obtain ⟨hp, g, d, tk, os⟩ := s
    obtain ⟨hl, h⟩ := h
    have f1 := AutoSeq1.idx_int
    wp_walk using wpAny_loadPart' hl
    repeat (first
      | (refine wpAny_ite_false (decide_eq_false (by rw [c0]; exact Bool.false_ne_true)) ?_; wp_walk using wpAny_loadPart' hl)
      | (refine wpAny_ite_true (decide_eq_true c1) ?_; wp_walk using wpAny_loadPart' hl))
    exact ⟨_, rfl, h⟩
theorem tuple_mulE (l : Addr) (items : Array Value) (n : Nat) (dd : Option Addr) (sl : Array (Option Value)) (x : Int) (u : Tok) (c0 : (decide (x < -(2 ^ 63)) || decide (x ≥ 2 ^ 63)) = false) (c1 : (items.isEmpty || x == 1) = false) (c2 : (decide (x ≤ 0) || items.isEmpty) = true) :
    Meets (Builtin.«tuple.__mul__» ⟨[.ref l, .int x u], []⟩) (fun _ R s => s.heap.get? l = some { cls := .type "tuple", dict := dd, data := .seq items n, slots := sl } ∧
      R (.ok (.ret (Value.ref s.heap.objs.size))) { s with heap := s.heap.push { cls := Value.type "tuple", data := Data.seq #[] }, toks := s.toks }) :=
  .of_wp fun prog w A R s h => by
    obtain ⟨hp, g, d, tk, os⟩ := s
    obtain ⟨hl, h⟩ := h
    have f1 := AutoSeq1.idx_int
    wp_walk using wpAny_loadPart' hl
    repeat (first
      | (refine wpAny_ite_false (decide_eq_false (by rw [c0]; exact Bool.false_ne_true)) ?_; wp_walk using wpAny_loadPart' hl)
      | (refine wpAny_ite_false (decide_eq_false (by rw [c1]; exact Bool.false_ne_true)) ?_; wp_walk using wpAny_loadPart' hl)
      | (refine wpAny_ite_true (decide_eq_true c2) ?_; wp_walk using wpAny_loadPart' hl))
    exact ⟨_, rfl, h⟩
theorem rep_flat {K : PySem.W.Frag} {H : Hp} {xs : List V} {ds : List D} (t : DfAll K H xs ds) : ∀ m : Nat, DfAll K H (List.replicate m xs).flatten (List.replicate m ds).flatten
  | 0 => .nil
  | m + 1 => by
    rw [List.replicate_succ, List.replicate_succ, List.flatten_cons, List.flatten_cons]
    exact t.append (rep_flat t m)
theorem len_rep {α : Type} (xs : List α) : ∀ m : Nat, (List.replicate m xs).flatten.length = xs.length * m
  | 0 => rfl
  | m + 1 => by rw [List.replicate_succ, List.flatten_cons, List.length_append, len_rep xs m, Nat.mul_succ]; omega
section
variable {X : Cx}
theorem o_mul : OpR X (binaryOp .Mult) (opRdF X.K mulD) := by
  intro pins s σ H x y v u Q I rx ry h
  obtain ⟨d1, d2, z, h1, h2, e, q, qL⟩ := h
  unfold mulD at e
  split at e
  · split at e
    · rename_i a b hz
      cases e; cases h1.int_eq; cases h2.int_eq
      have q' := q _ H (L2.Same.refl _) (.int _)
      unfold mulOk at hz
      rw [Bool.or_eq_true, Bool.or_eq_true] at hz
      rcases hz with (hz | hz) | hz
      · exact op_mul pins s σ H _ _ v u Q I rx ry ⟨_, _, rfl, rfl, .inl (of_decide_eq_true hz), q'⟩
      · exact op_mul pins s σ H _ _ v u Q I rx ry ⟨_, _, rfl, rfl, .inr (of_decide_eq_true hz), q'⟩
      · exact op_mulW pins s σ H _ _ v u Q I rx ry ⟨_, _, rfl, rfl, (show CMulW a b from (of_decide_eq_true hz : a.natAbs.log2 + b.natAbs.log2 < 1000000)), q'⟩
    · cases e
  · split at e
    · rename_i ds k hz
      rw [Bool.and_eq_true, Bool.and_eq_true] at hz
      have k1 := of_decide_eq_true hz.1.1
      have k2 := of_decide_eq_true hz.1.2
      have k3 := of_decide_eq_true hz.2
      cases e
      cases h2.int_eq
      obtain ⟨l, xs, rfl, hT, t1⟩ := h1.tup_at
      cases rx
      obtain ⟨t, rfl⟩ := ry
      obtain ⟨its, r, ⟨⟨cls, dd, data, sl⟩, ho, hc, n, hd⟩, hs⟩ := I.tuple hT
      simp only at hc hd
      subst hc hd
      have hle : its.length = xs.length := r.length.symm
      have hle2 : xs.length = ds.length := t1.length
      have c0 : (decide (k < -(2 ^ 63)) || decide (k ≥ 2 ^ 63)) = false := by
        rw [decide_eq_false (by omega), decide_eq_false (by omega)] <;> rfl
      have go : ∀ {R : Result → Shared → Prop}, wpAny (model X.prog X.w) X.A (call (.builtin "tuple.__mul__") [.ref l, .int k t]) (EP X pins σ Q) X.xe s → wpAny (model X.prog X.w) X.A (binaryOp .Mult (.ref l) (.int k t)) (EP X pins σ Q) X.xe s := fun hq => by
        refine wpAny_binaryOp_repeat_ref (T := "tuple") (U := "int") (by decide) ⟨_, ho, rfl⟩ (fun s' => typeIs_int s' k t) noFill_tuple_mul F.fills_int_mul F.slot_int_rmul repeat_tuple F.slot_int_index.lookup
          (call_meets F.slot_int_rmul (typeIs_int s k t) F.entry_int_rmul (F.args_int_rmul_2 _ _) (int_rmul_tuple k t l its.toArray n dd sl) ⟨ho, rfl, ⟨_, ho, rfl⟩, hq⟩)
      refine go (R := fun _ _ => True) ?_
      by_cases hc1 : (its.toArray.isEmpty || k == 1) = true
      · refine call_meets F.slot_tuple_mul ⟨_, ho, rfl⟩ F.entry_tuple_mul (F.args_tuple_mul_2 _ _) (tuple_mulS l its.toArray n dd sl k t c0 hc1) ⟨ho, ?_⟩
        have same : repD ds k = ds := by
          rcases Bool.or_eq_true_iff.mp hc1 with z | z
          · have : its = [] := by simpa using z
            subst this
            have : ds = [] := List.eq_nil_of_length_eq_zero (by simp at hle; omega)
            subst this
            unfold repD
            generalize k.toNat = m
            induction m with
            | zero => rfl
            | succ m ih => rw [List.replicate_succ, List.flatten_cons, ih]; rfl
          · have : k = 1 := by simpa using z
            subst this
            simp [repD]
        exact ⟨.ref l, H, I, rfl, q _ H (L2.Same.refl _) (by rw [same]; exact .tup hT t1)⟩
      · have hc1' : (its.toArray.isEmpty || k == 1) = false := by simpa using hc1
        have hemp : its.toArray.isEmpty = false := (Bool.or_eq_false_iff.mp hc1').1
        by_cases hk : k ≤ 0
        · have c2 : (decide (k ≤ 0) || its.toArray.isEmpty) = true := by rw [decide_eq_true hk]; rfl
          refine call_meets F.slot_tuple_mul ⟨_, ho, rfl⟩ F.entry_tuple_mul (F.args_tuple_mul_2 _ _) (tuple_mulE l its.toArray n dd sl k t c0 hc1' c2) ⟨ho, ?_⟩
          have hkk : k.toNat = 0 := by omega
          have hn := I.hok.fresh (Nat.le_refl s.heap.objs.size)
          obtain ⟨sm, d⟩ := new_tup (K := X.K) hn DfAll.nil
          refine ⟨.ref s.heap.objs.size, _, I.laid (t' := s.toks) (o := .tup []) (fun b ob q => Heap.get?_push_of_some _ q) (Nat.le_refl _) ⟨Nat.zero_le _, [], .nil, IsTup.new _ _⟩, rfl, q _ _ sm ?_⟩
          unfold repD
          rw [hkk]
          exact d
        · have c2 : (decide (k ≤ 0) || its.toArray.isEmpty) = false := by rw [decide_eq_false hk, hemp]; rfl
          have hsz : its.toArray.size = its.length := by simp
          have hm : its.length * k.toNat ≤ sizeLine := by rw [hle, hle2]; exact k3
          have hmi : ((its.toArray.size : Nat) : Int) * k = ((its.length * k.toNat : Nat) : Int) := by
            rw [hsz, Int.natCast_mul, Int.toNat_of_nonneg (by omega)]
          rw [sizeLine_eq] at hm
          refine call_meets F.slot_tuple_mul ⟨_, ho, rfl⟩ F.entry_tuple_mul (F.args_tuple_mul_2 _ _) (tuple_mulW l its.toArray n dd sl k t c0 hc1' c2 (by rw [hmi]; omega) (by
            unfold Builtin.Tuple.tupleTooMany
            rw [hmi, sizeLine_eq]
            exact decide_eq_false (by omega)) (by rw [size_rep, List.size_toArray, len_rep, sizeLine_eq]; exact hm)) ⟨ho, ?_⟩
          rw [size_rep]
          have hn := I.hok.fresh (Nat.le_refl s.heap.objs.size)
          obtain ⟨sm, d⟩ := new_tup (K := X.K) hn (rep_flat t1 k.toNat)
          exact ⟨.ref s.heap.objs.size, _, I.laid (t' := s.toks) (o := .tup (List.replicate k.toNat xs).flatten) (fun b ob q => Heap.get?_push_of_some _ q) (Nat.le_refl _) ⟨by rw [len_rep, hle2]; exact k3, _, r.rep k.toNat, IsTup.new _ _⟩, rfl, q _ _ sm d⟩
    · cases e
  · split at e
    · rename_i ds k hz
      rw [Bool.and_eq_true, Bool.and_eq_true] at hz
      have k1 := of_decide_eq_true hz.1.1
      have k2 := of_decide_eq_true hz.1.2
      have k3 := of_decide_eq_true hz.2
      cases e
      cases h2.int_eq
      obtain ⟨l, xs, rfl, hL, t1⟩ := h1.list_at
      cases rx
      obtain ⟨t, rfl⟩ := ry
      obtain ⟨its, r, ⟨⟨cls, dd, data, sl⟩, n, ho, hc, _, hd⟩, hs⟩ := I.list hL
      simp only at hc hd
      subst hc hd
      have hle : its.length = xs.length := r.length.symm
      have hle2 : xs.length = ds.length := t1.length
      have hm : its.length * k.toNat ≤ sizeLine := by rw [hle, hle2]; exact k3
      have hm2 := hm
      rw [sizeLine_eq] at hm2
      have hsz' : its.toArray.size * k.toNat ≤ 2 ^ 24 := by simpa using hm2
      refine wpAny_binaryOp_repeat_ref (T := "list") (U := "int") (by decide) ⟨_, ho, rfl⟩ (fun s' => typeIs_int s' k t) noFill_list_mul F.fills_int_mul F.slot_int_rmul repeat_list F.slot_int_index.lookup
        (call_meets F.slot_int_rmul (typeIs_int s k t) F.entry_int_rmul (F.args_int_rmul_2 _ _) (lm_int_rmul_list_any k t l its.toArray n dd sl)
          ⟨ho, rfl, ⟨_, ho, rfl⟩, call_meets F.slot_list_mul ⟨_, ho, rfl⟩ F.entry_list_mul (F.args_list_mul_2 _ _)
            (lm_list_mul_any l its.toArray n dd sl k t (by simp [Builtin.List.listFitsIndex]; omega) (by omega) (by simp [Builtin.List.listTooLong, sizeLine]; omega))
            ⟨ho, ?_⟩⟩)
      rw [listMul_foldl_if]
      obtain ⟨sm, d⟩ := new_lst (K := X.K) I.fresh (rep_flat t1 k.toNat)
      exact ⟨.ref _, _, I.lnew (t' := s.toks) (r.rep k.toNat) (by rw [len_rep, hle2]; exact k3), rfl, qL _ _ _ _ rfl sm I.fresh upd_same d⟩
    · cases e
  · cases e
end
end Pi

set_option Elab.async false
set_option linter.all false
set_option maxRecDepth 100000
/-! Pi7: comparisons, subscripts, builtins. -/
namespace Pi
open PySem PySem.Spec PyProof.Rows L2

section
variable {X : Cx}
theorem Dn.reads {pins : List (Addr × Obj)} {σ : L2.St} {H : Hp} {s : Shared} {v : V} {d : D} {u : Value} (I : Inv X pins σ H s) (h : Dn X.K H v d) (r : RelV v u) : ∃ as, Reads s.heap u d as := Dp.reads I d v u h.dp r
theorem flat_shaped {a : D} (f : flatP a = true) (h : ∀ z, a ≠ .str z) : SeqAt.shaped a = true := by
  cases a with
  | none => simp [SeqAt.shaped, PyData.canLay0, PyData.depth]
  | bool _ => simp [SeqAt.shaped, PyData.canLay0, PyData.depth]
  | int _ => simp [SeqAt.shaped, PyData.canLay0, PyData.depth]
  | str z => exact absurd rfl (h z)
  | _ => cases f
theorem flat_v {K : PySem.W.Frag} {H : Hp} {x : V} {a : D} (h : Dn K H x a) (f : flatP a = true) : flatV x = true := by
  cases a with
  | none => cases h.none_eq; rfl
  | bool _ => cases h.bool_eq; rfl
  | int _ => cases h.int_eq; rfl
  | str _ => cases h.str_eq; rfl
  | _ => cases f
theorem flat_eqv {K : PySem.W.Frag} {H : Hp} {x y : V} {a b : D} (h1 : Dn K H x a) (h2 : Dn K H y b) (f1 : flatP a = true) (f2 : flatP b = true) : eqV x y = PyData.eqv a b := by
  cases a with
  | none => cases h1.none_eq; cases b with
    | none => cases h2.none_eq; simp [eqV, PyData.eqv]
    | bool _ => cases h2.bool_eq; simp [eqV, PyData.eqv]
    | int _ => cases h2.int_eq; simp [eqV, PyData.eqv]
    | str _ => cases h2.str_eq; simp [eqV, PyData.eqv]
    | _ => cases f2
  | bool _ => cases h1.bool_eq; cases b with
    | none => cases h2.none_eq; simp [eqV, PyData.eqv]
    | bool _ => cases h2.bool_eq; simp [eqV, PyData.eqv]
    | int _ => cases h2.int_eq; simp [eqV, PyData.eqv]
    | str _ => cases h2.str_eq; simp [eqV, PyData.eqv]
    | _ => cases f2
  | int _ => cases h1.int_eq; cases b with
    | none => cases h2.none_eq; simp [eqV, PyData.eqv]
    | bool _ => cases h2.bool_eq; simp [eqV, PyData.eqv]
    | int _ => cases h2.int_eq; simp [eqV, PyData.eqv]
    | str _ => cases h2.str_eq; simp [eqV, PyData.eqv]
    | _ => cases f2
  | str _ => cases h1.str_eq; cases b with
    | none => cases h2.none_eq; simp [eqV, PyData.eqv]
    | bool _ => cases h2.bool_eq; simp [eqV, PyData.eqv]
    | int _ => cases h2.int_eq; simp [eqV, PyData.eqv]
    | str _ => cases h2.str_eq; simp [eqV, PyData.eqv]
    | _ => cases f2
  | _ => cases f1
/-- texts beside flat things: as values -/
theorem str_scal {K : PySem.W.Frag} {H : Hp} {x y : V} {a b : D} (h1 : Dn K H x a) (h2 : Dn K H y b) (f1 : flatP a = true) (f2 : flatP b = true) (hs : (∃ z, a = .str z) ∨ ∃ z, b = .str z) : scal x y = true ∧ decide (x = y) = PyData.eqv a b := by
  rcases hs with ⟨z, rfl⟩ | ⟨z, rfl⟩
  · cases h1.str_eq
    cases b with
    | none => cases h2.none_eq; exact ⟨rfl, by simp [PyData.eqv]⟩
    | bool _ => cases h2.bool_eq; exact ⟨rfl, by simp [PyData.eqv]⟩
    | int _ => cases h2.int_eq; exact ⟨rfl, by simp [PyData.eqv]⟩
    | str _ => cases h2.str_eq; exact ⟨rfl, by rw [dec_str]; simp [PyData.eqv]⟩
    | _ => cases f2
  · cases h2.str_eq
    cases a with
    | none => cases h1.none_eq; exact ⟨rfl, by simp [PyData.eqv]⟩
    | bool _ => cases h1.bool_eq; exact ⟨rfl, by simp [PyData.eqv]⟩
    | int _ => cases h1.int_eq; exact ⟨rfl, by simp [PyData.eqv]⟩
    | str _ => cases h1.str_eq; exact ⟨rfl, by rw [dec_str]; simp [PyData.eqv]⟩
    | _ => cases f1
theorem isStr (a : D) : (∃ z, a = .str z) ∨ ∀ z, a ≠ .str z := by
  cases a with
  | str z => exact .inl ⟨z, rfl⟩
  | _ => exact .inr fun z e => by cases e
theorem o_eq (hu : X.A.units + 128 < cLine) : OpR X (compareOp .Eq) (opRd X.K eqD) := by
  intro pins s σ H x y v u Q I rx ry h
  obtain ⟨a, b, z, h1, h2, e, q⟩ := h
  unfold eqD at e
  cases ek : eqB a b with
  | none => rw [ek] at e; cases e
  | some k =>
    rw [ek] at e; cases e
    have q' := q _ H (L2.Same.refl _) (.bl k)
    unfold eqB at ek
    split at ek
    · rename_i f
      rw [Bool.and_eq_true] at f
      cases ek
      by_cases hs : (∃ z, a = .str z) ∨ ∃ z, b = .str z
      · obtain ⟨sc, ee⟩ := str_scal h1 h2 f.1 f.2 hs
        exact op_eq pins s σ H x y v u Q I rx ry ⟨sc, by rw [ee]; exact q'⟩
      · exact op_eqD (by omega) pins s σ H x y v u Q I rx ry ⟨a, b, h1.dp, h2.dp, flat_shaped f.1 fun z e => hs (.inl ⟨z, e⟩), flat_shaped f.2 fun z e => hs (.inr ⟨z, e⟩), q'⟩
    · split at ek
      · rename_i f
        rw [Bool.and_eq_true] at f
        cases ek
        exact op_eqD (by omega) pins s σ H x y v u Q I rx ry ⟨a, b, h1.dp, h2.dp, f.1, f.2, q'⟩
      · cases ek
theorem o_ne (hu : X.A.units + 128 < cLine) : OpR X (compareOp .NotEq) (opRd X.K neD) := by
  intro pins s σ H x y v u Q I rx ry h
  obtain ⟨a, b, z, h1, h2, e, q⟩ := h
  unfold neD at e
  cases ek : eqB a b with
  | none => rw [ek] at e; cases e
  | some k =>
    rw [ek] at e; cases e
    have q' := q _ H (L2.Same.refl _) (.bl (!k))
    unfold eqB at ek
    split at ek
    · rename_i f
      rw [Bool.and_eq_true] at f
      cases ek
      by_cases hs : (∃ z, a = .str z) ∨ ∃ z, b = .str z
      · obtain ⟨sc, ee⟩ := str_scal h1 h2 f.1 f.2 hs
        exact op_ne pins s σ H x y v u Q I rx ry ⟨sc, by rw [ee]; exact q'⟩
      · exact op_neD (by omega) pins s σ H x y v u Q I rx ry ⟨a, b, h1.dp, h2.dp, flat_shaped f.1 fun z e => hs (.inl ⟨z, e⟩), flat_shaped f.2 fun z e => hs (.inr ⟨z, e⟩), q'⟩
    · split at ek
      · rename_i f
        rw [Bool.and_eq_true] at f
        cases ek
        exact op_neD (by omega) pins s σ H x y v u Q I rx ry ⟨a, b, h1.dp, h2.dp, f.1, f.2, q'⟩
      · cases ek
theorem o_lt (hu : X.A.units + 128 < cLine) : OpR X (compareOp .Lt) (opRd X.K ltD) := by
  intro pins s σ H x y v u Q I rx ry h
  obtain ⟨d1, d2, z, h1, h2, e, q⟩ := h
  unfold ltD at e
  split at e
  · cases e; cases h1.int_eq; cases h2.int_eq
    exact op_lt pins s σ H _ _ v u Q I rx ry ⟨_, _, rfl, rfl, q _ H (L2.Same.refl _) (.bl _)⟩
  · cases e; cases h1.str_eq; cases h2.str_eq
    exact op_lt_str pins s σ H _ _ v u Q I rx ry ⟨_, _, rfl, rfl, q _ H (L2.Same.refl _) (.bl _)⟩
  · split at e
    · rename_i xs ys hz
      rw [Bool.and_eq_true] at hz
      cases e
      obtain ⟨as, r1⟩ := h1.reads I rx
      obtain ⟨bs, r2⟩ := h2.reads I ry
      have hd := of_decide_eq_true hz.2
      have hm : min (PyData.tuple xs).depth (PyData.tuple ys).depth ≤ 64 := Nat.le_trans (Nat.min_le_left _ _) hd
      exact PySem.W.rcLt_alike _ _ X.A s v u as bs r1 r2 hz.1 (by intro z; cases z) (by omega) X.prog X.w X.xe _ ⟨.bl _, H, I, rfl, q _ H (L2.Same.refl _) (.bl _)⟩
    · cases e
  · cases e
theorem o_le : OpR X (compareOp .LtE) (opRd X.K leD) := by
  intro pins s σ H x y v u Q I rx ry h
  obtain ⟨d1, d2, z, h1, h2, e, q⟩ := h
  unfold leD at e
  split at e
  · cases e; cases h1.int_eq; cases h2.int_eq
    exact op_le pins s σ H _ _ v u Q I rx ry ⟨_, _, rfl, rfl, q _ H (L2.Same.refl _) (.bl _)⟩
  · cases e
theorem o_gt : OpR X (compareOp .Gt) (opRd X.K gtD) := by
  intro pins s σ H x y v u Q I rx ry h
  obtain ⟨d1, d2, z, h1, h2, e, q⟩ := h
  unfold gtD at e
  split at e
  · cases e; cases h1.int_eq; cases h2.int_eq
    exact op_gt pins s σ H _ _ v u Q I rx ry ⟨_, _, rfl, rfl, q _ H (L2.Same.refl _) (.bl _)⟩
  · cases e
theorem o_ge : OpR X (compareOp .GtE) (opRd X.K geD) := by
  intro pins s σ H x y v u Q I rx ry h
  obtain ⟨d1, d2, z, h1, h2, e, q⟩ := h
  unfold geD at e
  split at e
  · cases e; cases h1.int_eq; cases h2.int_eq
    exact op_ge pins s σ H _ _ v u Q I rx ry ⟨_, _, rfl, rfl, q _ H (L2.Same.refl _) (.bl _)⟩
  · cases e
theorem o_isB : OpR X (compareOp .Is) (opRd X.K isBD) := by
  intro pins s σ H x y v u Q I rx ry h
  obtain ⟨d1, d2, z, h1, h2, e, q⟩ := h
  unfold isBD at e
  split at e
  · cases e; cases h1.bool_eq; cases h2.bool_eq
    exact op_isBl pins s σ H _ _ v u Q I rx ry ⟨_, _, rfl, rfl, q _ H (L2.Same.refl _) (.bl _)⟩
  · cases e
theorem o_notB : OpR X (compareOp .IsNot) (opRd X.K notBD) := by
  intro pins s σ H x y v u Q I rx ry h
  obtain ⟨d1, d2, z, h1, h2, e, q⟩ := h
  unfold notBD at e
  split at e
  · cases e; cases h1.bool_eq; cases h2.bool_eq
    exact op_notBl pins s σ H _ _ v u Q I rx ry ⟨_, _, rfl, rfl, q _ H (L2.Same.refl _) (.bl _)⟩
  · cases e
/-- is None -/
def isND : D → D → Option D
  | a, .none => isNoneD a
  | _, _ => none
def notND : D → D → Option D
  | a, .none => notNoneD a
  | _, _ => none
theorem non_iff {K : PySem.W.Frag} {H : Hp} {x : V} {a : D} (h : Dn K H x a) : decide (x = .non) = isNon a := by
  cases h with
  | of h => cases h <;> simp [isNon]
  | lst h t => simp [isNon]
theorem o_isN : OpR X (compareOp .Is) (opRd X.K isND) := by
  intro pins s σ H x y v u Q I rx ry h
  obtain ⟨d1, d2, z, h1, h2, e, q⟩ := h
  unfold isND at e
  split at e
  · cases h2.none_eq
    unfold isNoneD at e
    cases e
    exact op_isN pins s σ H _ _ v u Q I rx ry ⟨rfl, by rw [non_iff h1]; exact q _ H (L2.Same.refl _) (.bl _)⟩
  · cases e
theorem o_notN : OpR X (compareOp .IsNot) (opRd X.K notND) := by
  intro pins s σ H x y v u Q I rx ry h
  obtain ⟨d1, d2, z, h1, h2, e, q⟩ := h
  unfold notND at e
  split at e
  · cases h2.none_eq
    unfold notNoneD at e
    cases e
    exact op_notN pins s σ H _ _ v u Q I rx ry ⟨rfl, by rw [non_iff h1]; exact q _ H (L2.Same.refl _) (.bl _)⟩
  · cases e
theorem in_flat {K : PySem.W.Frag} {H : Hp} {x : V} {a : D} (h1 : Dn K H x a) (f1 : flatP a = true) : ∀ {ys : List V} {ds : List D}, DfAll K H ys ds → ds.all flatP = true → ys.all flatV = true ∧ inV x ys = ds.any fun z => PyData.eqv z a
  | _, _, .nil, _ => ⟨rfl, rfl⟩
  | y :: ys, d :: ds, .cons h t, f => by
    rw [List.all_cons, Bool.and_eq_true] at f
    obtain ⟨i1, i2⟩ := in_flat h1 f1 t f.2
    refine ⟨by rw [List.all_cons, flat_v (.of h) f.1, i1]; rfl, ?_⟩
    unfold inV at i2 ⊢
    rw [List.any_cons, List.any_cons, flat_eqv (.of h) h1 f.1 f1, i2]
theorem o_in (hu : X.A.units + 128 < cLine) : OpR X (compareOp .In) (opRd X.K inD) := by
  intro pins s σ H x y v u Q I rx ry h
  obtain ⟨a, b, z, h1, h2, e, q⟩ := h
  unfold inD at e
  cases ek : inB a b with
  | none => rw [ek] at e; cases e
  | some k =>
    rw [ek] at e; cases e
    have q' := q _ H (L2.Same.refl _) (.bl k)
    unfold inB at ek
    split at ek
    · split at ek
      · rename_i f
        rw [Bool.and_eq_true] at f
        cases ek
        obtain ⟨p, ys, rfl, hs, t⟩ := h2.list_at
        obtain ⟨i1, i2⟩ := in_flat h1 f.1 t f.2
        exact op_in_seq pins s σ H x _ v u Q I rx ry ⟨p, ys, rfl, .inl hs, flat_v h1 f.1, i1, by rw [i2]; exact q'⟩
      · split at ek
        · rename_i f
          rw [Bool.and_eq_true] at f
          cases ek
          exact op_inD (by omega) pins s σ H x y v u Q I rx ry ⟨_, _, h1.dp, h2.dp, f.1, f.2, q'⟩
        · cases ek
    · split at ek
      · rename_i f
        rw [Bool.and_eq_true] at f
        cases ek
        obtain ⟨p, ys, rfl, hs, t⟩ := h2.tup_at
        obtain ⟨i1, i2⟩ := in_flat h1 f.1 t f.2
        exact op_in_seq pins s σ H x _ v u Q I rx ry ⟨p, ys, rfl, .inr hs, flat_v h1 f.1, i1, by rw [i2]; exact q'⟩
      · cases ek
    · split at ek
      · cases ek
        cases h1.str_eq; cases h2.str_eq
        exact op_in_sign pins s σ H _ _ v u Q I rx ry ⟨_, _, rfl, rfl, q'⟩
      · cases ek
    · cases ek
theorem o_notIn (hu : X.A.units + 128 < cLine) : OpR X (compareOp .NotIn) (opRd X.K notInD) := by
  intro pins s σ H x y v u Q I rx ry h
  obtain ⟨a, b, z, h1, h2, e, q⟩ := h
  unfold notInD at e
  cases ek : inB a b with
  | none => rw [ek] at e; cases e
  | some k =>
    rw [ek] at e; cases e
    have q' := q _ H (L2.Same.refl _) (.bl (!k))
    unfold inB at ek
    split at ek
    · split at ek
      · rename_i f
        rw [Bool.and_eq_true] at f
        cases ek
        obtain ⟨p, ys, rfl, hs, t⟩ := h2.list_at
        obtain ⟨i1, i2⟩ := in_flat h1 f.1 t f.2
        exact op_notIn_seq pins s σ H x _ v u Q I rx ry ⟨p, ys, rfl, .inl hs, flat_v h1 f.1, i1, by rw [i2]; exact q'⟩
      · split at ek
        · rename_i f
          rw [Bool.and_eq_true] at f
          cases ek
          exact op_notInD (by omega) pins s σ H x y v u Q I rx ry ⟨_, _, h1.dp, h2.dp, f.1, f.2, q'⟩
        · cases ek
    · split at ek
      · rename_i f
        rw [Bool.and_eq_true] at f
        cases ek
        obtain ⟨p, ys, rfl, hs, t⟩ := h2.tup_at
        obtain ⟨i1, i2⟩ := in_flat h1 f.1 t f.2
        exact op_notIn_seq pins s σ H x _ v u Q I rx ry ⟨p, ys, rfl, .inr hs, flat_v h1 f.1, i1, by rw [i2]; exact q'⟩
      · cases ek
    · split at ek
      · cases ek
        cases h1.str_eq; cases h2.str_eq
        exact op_notIn_sign pins s σ H _ _ v u Q I rx ry ⟨_, _, rfl, rfl, q'⟩
      · cases ek
    · cases ek
/-! ### subscripts -/
theorem at_df {K : PySem.W.Frag} {H : Hp} {xs : List V} {ds : List D} (t : DfAll K H xs ds) {i : Int} {z : D} (e : atD ds i = some z) : ∃ v, atI xs i = some v ∧ Df K H v z := by
  unfold atD at e
  unfold atI
  rw [t.length]
  split at e
  · rename_i j hj
    rw [hj]
    exact t.get e
  · cases e
theorem o_ix : IxR X (opRd X.K ixD) := by
  intro value slice pins s σ H x y v u Q I rx ry h hs
  obtain ⟨d1, d2, z, h1, h2, e, q⟩ := h
  unfold ixD at e
  split at e
  · cases h2.int_eq
    obtain ⟨a, xs, rfl, hl, t⟩ := h1.list_at
    obtain ⟨w, e1, dw⟩ := at_df t e
    exact ix_list value slice pins s σ H _ _ v u Q I rx ry ⟨a, xs, _, w, rfl, rfl, hl, e1, q w H (L2.Same.refl _) dw⟩ hs
  · cases h2.int_eq
    obtain ⟨a, xs, rfl, hl, t⟩ := h1.tup_at
    obtain ⟨w, e1, dw⟩ := at_df t e
    exact ix_tup value slice pins s σ H _ _ v u Q I rx ry ⟨a, xs, _, w, rfl, rfl, hl, e1, q w H (L2.Same.refl _) dw⟩ hs
  · split at e
    · rename_i hz
      cases h2.int_eq; cases h1.str_eq
      split at e
      · rename_i j hj
        cases ec : (Str.cps _).toList[j]? with
        | none => rw [ec] at e; cases e
        | some c =>
          rw [ec] at e; cases e
          refine ix_str value slice pins s σ H _ _ v u Q I rx ry ⟨_, _, c, rfl, rfl, hz, ?_, q _ H (L2.Same.refl _) (.str _)⟩ hs
          unfold atI
          rw [hj]
          exact ec
      · cases e
    · cases e
  · cases e
end
end Pi

set_option Elab.async false
set_option linter.all false
set_option maxRecDepth 100000
/-! Pi8: isinstance, slices, builtins. -/
namespace Pi
open PySem PySem.Spec PyProof.Rows L2

/-! ### isinstance -/
def tyN : D → String
  | .none => "NoneType"
  | .bool _ => "bool"
  | .int _ => "int"
  | .str _ => "str"
  | .list _ => "list"
  | .tuple _ => "tuple"
  | .dict _ => "dict"
inductive Ty where | int | bool | str | tup | lst
def Ty.nm : Ty → String
  | .int => "int" | .bool => "bool" | .str => "str" | .tup => "tuple" | .lst => "list"
def Ty.has : Ty → D → Bool
  | .int, .int _ => true
  | .int, .bool _ => true
  | .bool, .bool _ => true
  | .str, .str _ => true
  | .tup, .tuple _ => true
  | .lst, .list _ => true
  | _, _ => false
def isT (T : Ty) (d : D) : Option D := some (.bool (T.has d))
theorem kit_has (T : Ty) (d : D) : kitB (tyN d) T.nm = some (T.has d) := by
  cases T <;> cases d <;> (first | rfl | decide +kernel)
section
variable {X : Cx} {W : WX}
theorem Dn.tyX {K : PySem.W.Frag} {H : Hp} {x : V} {d : D} (h : Dn K H x d) (hd : ∀ kvs, d ≠ .dict kvs) : TyX K H x (.type (tyN d)) := by
  cases d with
  | none => cases h.none_eq; exact .base .non
  | bool b => cases h.bool_eq; exact .base (.bl b)
  | int i => cases h.int_eq; exact .base (.int i)
  | str z => cases h.str_eq; exact .base (.str z)
  | list xs =>
    obtain ⟨a, vs, rfl, hs, t⟩ := h.list_at
    rcases hs with (hs | ⟨o, hs⟩) | ⟨o, its, n, hk, hc, _⟩
    · exact .base (.lst hs)
    · exact .base (.frz hs)
    · exact .kList hk hc
  | tuple xs =>
    obtain ⟨a, vs, rfl, hs, t⟩ := h.tup_at
    rcases hs with (hs | ⟨o, hs⟩) | ⟨o, its, n, hk, hc, _⟩
    · exact .base (.tup hs)
    · exact .fTuple hs
    · exact .kTuple hk hc
  | dict kvs => exact absurd rfl (hd kvs)
theorem not_dict {K : PySem.W.Frag} {H : Hp} {x : V} {d : D} (h : Dn K H x d) : ∀ kvs, d ≠ .dict kvs := fun kvs e => by
  subst e
  cases h with
  | of h => cases h
/-- isinstance(e, T) -/
theorem i_isi (T : Ty) {e : Expr} {m : EM} {p p2 pos : Pos} (h : IE X W e m) (hm : X.mg "isinstance" = none) (hm2 : X.mg (Str.ofString T.nm) = none) (hg : Gl X "isinstance" := by rfl) (hg2 : Gl X (Str.ofString T.nm) := by rfl)
    (hv : bootBuiltins (Str.ofString T.nm) = some (.type T.nm) := by decide +kernel)
    (he : starEach [e, .Name (Str.ofString T.nm) p2] X.env = (false, eval e X.env) :: starEach [.Name (Str.ofString T.nm) p2] X.env := by rfl) (hpl : (backTo pos (starEach [.Name (Str.ofString T.nm) p2] X.env)).any (·.1) = false := by rfl)
    (hn : Str.ofString T.nm ≠ "__name__" := by decide) (hdb : (Str.ofString T.nm == ("__debug__" : Str)) = false := by decide) :
    IE X W (.Call (.Name "isinstance" p) [e, .Name (Str.ofString T.nm) p2] [] pos) (mOp1 (isT T) m) :=
  PE.imp (pe_callB call_isi hg hm (by decide +kernel) (pa_cons h (pa_cons (pe_bltn (v := .ty T.nm) (u := .type T.nm) hg2 hm2 hv rfl hn hdb) pa_nil) he) (by decide) (by decide) he hpl) fun σ H Q h => by
    obtain ⟨φ, ρ, S, eo, so, h⟩ := rd_op1 h
    refine ⟨φ, ρ, S, eo, so, h.imp fun x φ1 S1 H1 _ g1 so1 h1 v r => ?_⟩
    obtain ⟨d, z, dn, e, q⟩ := h1 v r
    cases e
    exact ⟨v, .ty T.nm, .type (tyN d), .type T.nm, T.has d, rfl, .ty _, dn.tyX (not_dict dn), kit_ty (kit_has T d), q _ H1 (L2.Same.refl _) (.bl _)⟩

/-! ### slices -/
def cutD (xs : List D) (lo hi : Option Int) : List D := (xs.drop (HT.sIx xs.length 0 lo)).take (HT.sIx xs.length xs.length hi - HT.sIx xs.length 0 lo)
def sliceD : D → Option Int → Option Int → Option D
  | .list xs, lo, hi => some (.list (cutD xs lo hi))
  | .tuple xs, lo, hi => some (.tuple (cutD xs lo hi))
  | .str z, lo, hi => if z.length ≤ sizeLine then some (.str (cutS z lo hi)) else none
  | _, _, _ => none
theorem cut_df {K : PySem.W.Frag} {H : Hp} {xs : List V} {ds : List D} (t : DfAll K H xs ds) (lo hi : Option Int) : DfAll K H (cutV xs lo hi) (cutD ds lo hi) := by
  unfold cutV cutD
  rw [t.length]
  exact (t.drop _).take _
def slRd (K : PySem.W.Frag) : V → Option Int → Option Int → Hp → VK → Prop := fun x lo hi H Q => ∃ d z, Dn K H x d ∧ sliceD d lo hi = some z ∧ (∀ v H', L2.Same H H' → Df K H' v z → Q v H') ∧
  ∀ p vs zs H', z = .list zs → L2.Same H H' → H p = none → H' p = some (.lst vs) → DfAll K H' vs zs → Q (.ref p) H'
theorem o_slice : SlR X (slRd X.K) := by
  intro pins s σ H x v vl vu lo hi sl Q I rx hs pl pu h
  obtain ⟨d, z, h1, e, q, qL⟩ := h
  unfold sliceD at e
  split at e
  · cases e
    obtain ⟨a, xs, rfl, hl, t⟩ := h1.list_at
    refine sl_list pins s σ H _ v vl vu lo hi sl Q I rx hs pl pu ⟨a, xs, rfl, hl, fun p hp => ?_⟩
    obtain ⟨sm, d⟩ := new_lst hp (cut_df t lo hi)
    exact qL p _ _ _ rfl sm hp upd_same d
  · cases e
    obtain ⟨a, xs, rfl, hl, t⟩ := h1.tup_at
    refine sl_tupA pins s σ H _ v vl vu lo hi sl Q I rx hs pl pu ⟨a, xs, rfl, hl, fun hw => ?_, fun hw p hp => ?_⟩
    · refine q _ H (L2.Same.refl _) ?_
      have : cutV xs lo hi = xs := by unfold cutV; rw [hw.1, hw.2]; simp
      have t' := cut_df t lo hi
      rw [this] at t'
      exact .tup hl t'
    · obtain ⟨sm, d⟩ := new_tup hp (cut_df t lo hi)
      exact q _ _ sm d
  · split at e
    · rename_i hz
      cases e
      cases h1.str_eq
      exact sl_str pins s σ H _ v vl vu lo hi sl Q I rx hs pl pu ⟨_, rfl, hz, q _ H (L2.Same.refl _) (.str _)⟩
    · cases e
  · cases e
abbrev OM := M (Option Int)
def rdO (K : PySem.W.Frag) (mg : Str → Option Value) (W : WX) (m : OM) : TO := fun σ H Q => ∃ φ ρ S, EnvOk K φ H σ ρ ∧ StOk K φ H S ∧ EndR K mg W φ H σ (fun o _ _ H' => Q o H') (m ρ S)
abbrev IO (X : Cx) (W : WX) (e : Option Expr) (m : OM) : Prop := PO X e (rdO X.K X.mg W m)
def mNoP : OM := fun _ S => .ok none S
def mPart (a : EM) : OM := fun ρ S => (a ρ S).bind fun x S1 => match x with
  | .d (.int i) => .ok (some i) S1
  | _ => .no
theorem PO.imp {e : Option Expr} {t t' : TO} (h : PO X e t) (f : ∀ σ H Q, t' σ H Q → t σ H Q) : PO X e t' := ⟨fun pins s σ H Q I q => h.run pins s σ H Q I (f σ H Q q)⟩
theorem i_noP : IO X W none mNoP := PO.imp po_none fun σ H Q h => by
  obtain ⟨φ, ρ, S, eo, so, h⟩ := h
  exact h.now so
theorem i_part {e : Expr} {m : EM} (h : IE X W e m) : IO X W (some e) (mPart m) := PO.imp (po_some h) fun σ H Q h => by
  obtain ⟨φ, ρ, S, eo, so, h⟩ := h
  refine ⟨φ, ρ, S, eo, so, (EndR.bind h).imp fun x φ1 S1 H1 ex g1 so1 h1 v r => ?_⟩
  split at h1
  · cases r
    exact ⟨_, rfl, h1.now so1⟩
  · exact h1.elim
def mSlice (a : EM) (lo hi : OM) : EM := fun ρ S => (a ρ S).bind fun x S1 => (lo ρ S1).bind fun l S2 => (hi ρ S2).bind fun h S3 => match rd S3 x with
  | some x' => match sliceD x' l h with
    | some z => .ok (.d z) S3
    | none => .no
  | none => .no
theorem i_slice {e : Expr} {lo hi : Option Expr} {m : EM} {ml mh : OM} {p2 pos : Pos} (he : IE X W e m) (hl : IO X W lo ml) (hh : IO X W hi mh) : IE X W (.Subscript e (.Slice lo hi none p2) pos) (mSlice m ml mh) :=
  PE.imp (pe_frzF (pe_slice o_slice he hl hh)) fun σ H Q h => by
    obtain ⟨φ, ρ, S, eo, so, h⟩ := h
    refine ⟨φ, ρ, S, eo, so, (EndR.bind h).imp fun x φ1 S1 H1 _ g1 so1 h1 v1 r1 => ?_⟩
    refine ⟨φ1, ρ, S1, eo.grow g1, so1, (EndR.bind h1).imp fun l φ2 S2 H2 _ g2 so2 h2 => ?_⟩
    refine ⟨φ2, ρ, S2, (eo.grow g1).grow g2, so2, (EndR.bind h2).imp fun u φ3 S3 H3 _ g3 so3 h3 => ?_⟩
    split at h3
    · rename_i x' q1
      split at h3
      · rename_i z q3
        refine ⟨x', z, ((r1.grow g2).grow g3).rd so3 q1, q3, fun v H' s d => .inl (h3 φ3 H' (Grow.same s) (so3.same s) v d), fun p vs zs H' ez s n ep df => .inr ⟨p, vs, rfl, ep, fun o => ?_⟩⟩
        subst ez
        have s' : L2.Same H3 (upd H' p (.frz o (.lst vs))) := same_frz s n
        exact h3 φ3 _ (Grow.same s') (so3.same s') _ (.lst (.inl ⟨o, upd_same⟩) (DfAll.mono (upd_stab ep rfl) df))
      · exact h3.elim
    · exact h3.elim

/-! ### builtins -/
theorem dn1 {K : PySem.W.Frag} {H : Hp} {vs : List V} {d : D} (h : DnAll K H vs [d]) : ∃ v, vs = [v] ∧ Dn K H v d := by
  cases h with
  | cons h t => cases t; exact ⟨_, rfl, h⟩
theorem dn2 {K : PySem.W.Frag} {H : Hp} {vs : List V} {d e : D} (h : DnAll K H vs [d, e]) : ∃ v w, vs = [v, w] ∧ Dn K H v d ∧ Dn K H w e := by
  cases h with
  | cons h t =>
    cases t with
    | cons h' t => cases t; exact ⟨_, _, rfl, h, h'⟩
theorem c_len : CallR X (.builtin "len") (cbRd X.K lenD) := by
  intro pins s σ H xs us Q I r h
  obtain ⟨ds, z, h1, e, q⟩ := h
  unfold lenD at e
  split at e
  · cases e
    obtain ⟨v, rfl, dn⟩ := dn1 h1
    obtain ⟨a, vs, rfl, hs, t⟩ := dn.list_at
    exact call_len pins s σ H _ us Q I r ⟨_, vs.length, rfl, .inl ⟨vs, hs, rfl⟩, by rw [t.length]; exact q _ H (L2.Same.refl _) (.int _)⟩
  · cases e
    obtain ⟨v, rfl, dn⟩ := dn1 h1
    obtain ⟨a, vs, rfl, hs, t⟩ := dn.tup_at
    exact call_len pins s σ H _ us Q I r ⟨_, vs.length, rfl, .inr ⟨vs, hs, rfl⟩, by rw [t.length]; exact q _ H (L2.Same.refl _) (.int _)⟩
  · split at e
    · rename_i hz
      cases e
      obtain ⟨v, rfl, dn⟩ := dn1 h1
      cases dn.str_eq
      exact call_len pins s σ H _ us Q I r ⟨_, _, rfl, ⟨hz, rfl⟩, q _ H (L2.Same.refl _) (.int _)⟩
    · cases e
  · cases e
theorem c_abs : CallR X (.builtin "abs") (cbRd X.K absD) := by
  intro pins s σ H xs us Q I r h
  obtain ⟨ds, z, h1, e, q⟩ := h
  unfold absD at e
  split at e
  · cases e
    obtain ⟨v, rfl, dn⟩ := dn1 h1
    cases dn.int_eq
    exact call_abs pins s σ H _ us Q I r ⟨_, rfl, q _ H (L2.Same.refl _) (.int _)⟩
  · cases e
theorem bools_df {K : PySem.W.Frag} {H : Hp} : ∀ {vs : List V} {ds : List D} {bs : List Bool}, DfAll K H vs ds → boolsD ds = some bs → vs = bs.map V.bl
  | _, _, _, .nil, e => by cases e; rfl
  | _, d :: ds, bs, .cons h t, e => by
    cases d with
    | bool b =>
      cases h
      unfold boolsD at e
      cases q : boolsD ds with
      | none => rw [q] at e; cases e
      | some cs => rw [q] at e; cases e; rw [bools_df t q]; rfl
    | _ => cases e
theorem ints_df {K : PySem.W.Frag} {H : Hp} : ∀ {vs : List V} {ds : List D} {bs : List Int}, DfAll K H vs ds → intsD ds = some bs → vs = bs.map V.int
  | _, _, _, .nil, e => by cases e; rfl
  | _, d :: ds, bs, .cons h t, e => by
    cases d with
    | int b =>
      cases h
      unfold intsD at e
      cases q : intsD ds with
      | none => rw [q] at e; cases e
      | some cs => rw [q] at e; cases e; rw [ints_df t q]; rfl
    | _ => cases e
theorem c_all (hc : X.calm = true) : CallR X (.builtin "all") (cbRd X.K allD1) := by
  intro pins s σ H xs us Q I r h
  obtain ⟨ds, z, h1, e, q⟩ := h
  unfold allD1 at e
  split at e
  · rename_i ys
    cases eb : boolsD ys with
    | none => rw [eb] at e; cases e
    | some bs =>
      rw [eb] at e; cases e
      obtain ⟨v, rfl, dn⟩ := dn1 h1
      obtain ⟨a, vs, rfl, hs, t⟩ := dn.list_at
      have ev := bools_df t eb
      subst ev
      exact cr_all hc pins s σ H _ us Q I r ⟨a, bs, rfl, hs, q _ H (L2.Same.refl _) (.bl _)⟩
  · cases e
theorem c_any (hc : X.calm = true) : CallR X (.builtin "any") (cbRd X.K anyD1) := by
  intro pins s σ H xs us Q I r h
  obtain ⟨ds, z, h1, e, q⟩ := h
  unfold anyD1 at e
  split at e
  · rename_i ys
    cases eb : boolsD ys with
    | none => rw [eb] at e; cases e
    | some bs =>
      rw [eb] at e; cases e
      obtain ⟨v, rfl, dn⟩ := dn1 h1
      obtain ⟨a, vs, rfl, hs, t⟩ := dn.list_at
      have ev := bools_df t eb
      subst ev
      exact cr_any hc pins s σ H _ us Q I r ⟨a, bs, rfl, hs, q _ H (L2.Same.refl _) (.bl _)⟩
  · cases e
theorem c_int : CallR X (.type "int") (cbRd X.K intD) := by
  intro pins s σ H xs us Q I r h
  obtain ⟨ds, z, h1, e, q⟩ := h
  unfold intD at e
  split at e
  · cases e
    obtain ⟨v, rfl, dn⟩ := dn1 h1
    cases dn.int_eq
    exact call_int1 pins s σ H _ us Q I r (.inl ⟨_, rfl, q _ H (L2.Same.refl _) (.int _)⟩)
  · cases e
    obtain ⟨v, rfl, dn⟩ := dn1 h1
    cases dn.bool_eq
    exact call_int1 pins s σ H _ us Q I r (.inr ⟨_, rfl, q _ H (L2.Same.refl _) (.int _)⟩)
  · cases e
theorem c_tuple : CallR X (.type "tuple") (cbRd X.K tupleD) := by
  intro pins s σ H xs us Q I r h
  obtain ⟨ds, z, h1, e, q⟩ := h
  unfold tupleD at e
  split at e
  · cases e
    obtain ⟨v, rfl, dn⟩ := dn1 h1
    obtain ⟨a, vs, rfl, hs, t⟩ := dn.list_at
    refine call_tuple_of pins s σ H _ us Q I r ⟨a, vs, rfl, .inl ⟨hs, fun p hp => ?_⟩⟩
    obtain ⟨sm, d⟩ := new_tup hp t
    exact q _ _ sm d
  · cases e
    obtain ⟨v, rfl, dn⟩ := dn1 h1
    obtain ⟨a, vs, rfl, hs, t⟩ := dn.tup_at
    exact call_tuple_of pins s σ H _ us Q I r ⟨a, vs, rfl, .inr ⟨hs, q _ H (L2.Same.refl _) (.tup hs t)⟩⟩
  · cases e
theorem c_list : CallR X (.type "list") (cbRdL X.K listD) := by
  intro pins s σ H xs us Q I r h
  obtain ⟨ds, z, h1, e, q⟩ := h
  unfold listD at e
  split at e
  · cases e
    obtain ⟨v, rfl, dn⟩ := dn1 h1
    obtain ⟨a, vs, rfl, hs, t⟩ := dn.list_at
    refine call_list_of pins s σ H _ us Q I r ⟨a, vs, rfl, .inl hs, fun p hp => ?_⟩
    obtain ⟨sm, d⟩ := new_lst hp t
    exact q p _ _ sm hp upd_same d
  · cases e
    obtain ⟨v, rfl, dn⟩ := dn1 h1
    obtain ⟨a, vs, rfl, hs, t⟩ := dn.tup_at
    refine call_list_of pins s σ H _ us Q I r ⟨a, vs, rfl, .inr hs, fun p hp => ?_⟩
    obtain ⟨sm, d⟩ := new_lst hp t
    exact q p _ _ sm hp upd_same d
  · cases e
end
end Pi

set_option Elab.async false
set_option linter.all false
set_option maxRecDepth 100000
/-! Pi9: min, max, sum; sorted; lists changed; calls with a cell. -/
namespace Pi
open PySem PySem.Spec PyProof.Rows L2

theorem maxI_spec : ∀ (x : Int) (r : List Int), maxI (x :: r) ∈ x :: r ∧ ∀ a ∈ x :: r, a ≤ maxI (x :: r)
  | x, [] => by simp [maxI]
  | x, y :: r => by
    obtain ⟨h1, h2⟩ := maxI_spec y r
    have e : maxI (x :: y :: r) = max x (maxI (y :: r)) := rfl
    rw [e]
    refine ⟨?_, fun a ha => ?_⟩
    · rcases Int.le_total x (maxI (y :: r)) with h | h
      · rw [Int.max_eq_right h]; exact List.mem_cons_of_mem _ h1
      · rw [Int.max_eq_left h]; exact List.mem_cons_self
    · rcases List.mem_cons.mp ha with rfl | ha
      · exact Int.le_max_left _ _
      · exact Int.le_trans (h2 a ha) (Int.le_max_right _ _)
theorem minI_spec : ∀ (x : Int) (r : List Int), minI (x :: r) ∈ x :: r ∧ ∀ a ∈ x :: r, minI (x :: r) ≤ a
  | x, [] => by simp [minI]
  | x, y :: r => by
    obtain ⟨h1, h2⟩ := minI_spec y r
    have e : minI (x :: y :: r) = min x (minI (y :: r)) := rfl
    rw [e]
    refine ⟨?_, fun a ha => ?_⟩
    · rcases Int.le_total x (minI (y :: r)) with h | h
      · rw [Int.min_eq_left h]; exact List.mem_cons_self
      · rw [Int.min_eq_right h]; exact List.mem_cons_of_mem _ h1
    · rcases List.mem_cons.mp ha with rfl | ha
      · exact Int.min_le_left _ _
      · exact Int.le_trans (Int.min_le_right _ _) (h2 a ha)
section
variable {prog : Program} {w : World} {A : Around} {E : Value → Shared → Prop} {s : Shared} {t : Addr}
theorem tup_st {its : Array Value} (ht : s.heap.IsTuple t its) : (s.heap.push { cls := .type "tuple_iterator", data := .fields #[.ref t, .int 0 0] }).IsTupleIter s.heap.objs.size t 0 ∧
    (s.heap.push { cls := .type "tuple_iterator", data := .fields #[.ref t, .int 0 0] }).IsTuple t its := ⟨⟨_, Heap.get?_push_size _ rfl, rfl, rfl⟩, ht.at fun o e => Heap.get?_push_of_some _ e⟩
theorem tup_raw {bt : Nat → Nat → Bool} {xs : Array (Int × Tok)} {Q : Value → Shared → Prop} (hh : A.handled = none) (ht : s.heap.IsTuple t (intItems xs)) (hne : 0 < xs.size) {op : CmpOp} (hc : CmpOf prog w A.in1 op (fun i v => (intItems xs)[i]? = some v) bt)
    (h : ∀ v h' tk, (intItems xs)[argBest bt (xs.size - 1)]? = some v → (∀ b o, s.heap.get? b = some o → h'.get? b = some o) → Q v { s with heap := h', toks := tk }) :
    wpAny (model prog w) A.in1 (pyIter (.ref t)) (fun it s₂ => ∃ I fp wr n P St bt, it = .ref I ∧ Walks prog w A.in1 I fp wr n P St ∧ St 0 s₂.heap ∧ (∀ b ∈ fp, b < s₂.heap.objs.size) ∧ 0 < n ∧ CmpOf prog w A.in1 op P bt ∧
      ∀ v h' tk, P (argBest bt (n - 1)) v → (∀ b o, b ∉ wr → s₂.heap.get? b = some o → h'.get? b = some o) → Q v { s₂ with heap := h', toks := tk }) E s := by
  obtain ⟨o, ho, hc', n, hd⟩ := id ht
  have hlt : t < s.heap.objs.size := Heap.lt_size ho
  have hsz : (intItems xs).size = xs.size := by simp [intItems]
  refine wpAny_pyIter_tuple ht ?_
  refine ⟨s.heap.objs.size, _, _, _, _, _, bt, rfl, Walks.tuple (A := A.in1) hh s.heap.objs.size t (Nat.ne_of_lt hlt) (intItems xs), tup_st ht, fun b hb => ?_, by rw [hsz]; exact hne, hc, fun v h' tk hP hk => ?_⟩
  · rcases List.mem_cons.mp hb with rfl | hb
    · exact Heap.lt_size (Heap.get?_push_size _ rfl)
    · obtain rfl := List.mem_singleton.mp hb
      exact Heap.lt_size (Heap.get?_push_of_some _ ho)
  · refine h v h' tk (by rw [hsz] at hP; exact hP) fun b o e => hk b o (fun hb => ?_) (Heap.get?_push_of_some _ e)
    rw [List.mem_singleton.mp hb] at e
    exact absurd (Heap.lt_size e) (Nat.lt_irrefl _)
theorem max_tup {its : List Value} {ns : List Int} {Q : Value → Shared → Prop} (hh : A.handled = none) (ht : s.heap.IsTuple t its.toArray) (hi : IntsAre its ns) (hne : 0 < ns.length)
    (h : ∀ h' tk M t', (∀ b o, s.heap.get? b = some o → h'.get? b = some o) → M ∈ ns → (∀ a, a ∈ ns → a ≤ M) → Q (.int M t') { s with heap := h', toks := tk }) : wpAny (model prog w) A (call (.builtin "max") [.ref t]) Q E s := by
  obtain ⟨xs, e⟩ := hi.allInts.items
  have hn : numsOf (intItems xs).toList = ns := by rw [← e]; exact hi.numsOf
  rw [nums_intItems] at hn
  subst hn
  rw [e] at ht
  have hsz : 0 < xs.size := by simpa using hne
  refine call_max_walk (tup_raw hh ht hsz (CmpOf.ints_gt (numAt xs) (fun _ _ => intItems_at)) fun v h' tk hv hk => ?_)
  obtain ⟨t, rfl⟩ := intItems_at hv
  obtain ⟨h1, h2⟩ := argBest_gt (numAt xs) (xs.size - 1)
  refine h h' tk _ t hk ?_ fun a ha => ?_
  · rw [numAt_eq]; exact PySem.getD_mem (by rw [List.length_map, Array.length_toList]; omega)
  · obtain ⟨j, hj, rfl⟩ := mem_getD ha
    rw [List.length_map, Array.length_toList] at hj
    rw [← numAt_eq]; exact h2 j (by omega)
theorem min_tup {its : List Value} {ns : List Int} {Q : Value → Shared → Prop} (hh : A.handled = none) (ht : s.heap.IsTuple t its.toArray) (hi : IntsAre its ns) (hne : 0 < ns.length)
    (h : ∀ h' tk M t', (∀ b o, s.heap.get? b = some o → h'.get? b = some o) → M ∈ ns → (∀ a, a ∈ ns → M ≤ a) → Q (.int M t') { s with heap := h', toks := tk }) : wpAny (model prog w) A (call (.builtin "min") [.ref t]) Q E s := by
  obtain ⟨xs, e⟩ := hi.allInts.items
  have hn : numsOf (intItems xs).toList = ns := by rw [← e]; exact hi.numsOf
  rw [nums_intItems] at hn
  subst hn
  rw [e] at ht
  have hsz : 0 < xs.size := by simpa using hne
  refine call_min_walk (tup_raw hh ht hsz (CmpOf.ints_lt (numAt xs) (fun _ _ => intItems_at)) fun v h' tk hv hk => ?_)
  obtain ⟨t, rfl⟩ := intItems_at hv
  obtain ⟨h1, h2⟩ := argBest_lt (numAt xs) (xs.size - 1)
  refine h h' tk _ t hk ?_ fun a ha => ?_
  · rw [numAt_eq]; exact PySem.getD_mem (by rw [List.length_map, Array.length_toList]; omega)
  · obtain ⟨j, hj, rfl⟩ := mem_getD ha
    rw [List.length_map, Array.length_toList] at hj
    rw [← numAt_eq]; exact h2 j (by omega)
end
section
variable {X : Cx}
theorem maxOf_ok {xs : List D} {z : D} (e : maxOf xs = some z) : ∃ x r, intsD xs = some (x :: r) ∧ z = .int (maxI (x :: r)) := by
  unfold maxOf at e
  split at e
  · rename_i x r q
    cases e
    exact ⟨x, r, q, rfl⟩
  · cases e
theorem minOf_ok {xs : List D} {z : D} (e : minOf xs = some z) : ∃ x r, intsD xs = some (x :: r) ∧ z = .int (minI (x :: r)) := by
  unfold minOf at e
  split at e
  · rename_i x r q
    cases e
    exact ⟨x, r, q, rfl⟩
  · cases e
theorem c_max (hc : X.calm = true) : CallR X (.builtin "max") (cbRd X.K maxD) := by
  intro pins s σ H xs us Q I r h
  obtain ⟨ds, z, h1, e, q⟩ := h
  unfold maxD at e
  split at e
  · rename_i a b
    cases e
    obtain ⟨v, w, rfl, d1, d2⟩ := dn2 h1
    cases d1.int_eq; cases d2.int_eq
    refine call_max2 hc pins s σ H _ us Q I r ⟨a, b, rfl, ?_⟩
    have : (if b > a then b else a) = max a b := by split <;> omega
    rw [this]
    exact q _ H (L2.Same.refl _) (.int _)
  · obtain ⟨x, rr, ei, rfl⟩ := maxOf_ok e
    obtain ⟨v, rfl, dn⟩ := dn1 h1
    obtain ⟨a, vs, rfl, hs, t⟩ := dn.list_at
    have ev := ints_df t ei
    subst ev
    obtain ⟨m1, m2⟩ := maxI_spec x rr
    refine cr_max hc pins s σ H _ us Q I r ⟨a, _, rfl, hs, by simp, fun m hm hle => ?_⟩
    have : m = maxI (x :: rr) := Int.le_antisymm (m2 m hm) (hle _ m1)
    rw [this]
    exact q _ H (L2.Same.refl _) (.int _)
  · obtain ⟨x, rr, ei, rfl⟩ := maxOf_ok e
    obtain ⟨v, rfl, dn⟩ := dn1 h1
    obtain ⟨a, vs, rfl, hs, t⟩ := dn.tup_at
    have ev := ints_df t ei
    subst ev
    obtain ⟨m1, m2⟩ := maxI_spec x rr
    obtain ⟨its, rv, ht, _⟩ := I.tuple hs
    rw [Vals.ref1 r]
    refine max_tup (I.ok.hd hc) (show s.heap.IsTuple a its.toArray from ht) rv.ints (by simp) fun h' tk m t' hk hm hle => ?_
    have : m = maxI (x :: rr) := Int.le_antisymm (m2 m hm) (hle _ m1)
    subst this
    exact ⟨.int _, H, I.kept hk, ⟨_, rfl⟩, q _ H (L2.Same.refl _) (.int _)⟩
  · cases e
theorem c_min (hc : X.calm = true) : CallR X (.builtin "min") (cbRd X.K minD) := by
  intro pins s σ H xs us Q I r h
  obtain ⟨ds, z, h1, e, q⟩ := h
  unfold minD at e
  split at e
  · rename_i a b
    cases e
    obtain ⟨v, w, rfl, d1, d2⟩ := dn2 h1
    cases d1.int_eq; cases d2.int_eq
    refine call_min2 hc pins s σ H _ us Q I r ⟨a, b, rfl, ?_⟩
    have : (if b < a then b else a) = min a b := by split <;> omega
    rw [this]
    exact q _ H (L2.Same.refl _) (.int _)
  · obtain ⟨x, rr, ei, rfl⟩ := minOf_ok e
    obtain ⟨v, rfl, dn⟩ := dn1 h1
    obtain ⟨a, vs, rfl, hs, t⟩ := dn.list_at
    have ev := ints_df t ei
    subst ev
    obtain ⟨m1, m2⟩ := minI_spec x rr
    refine cr_min hc pins s σ H _ us Q I r ⟨a, _, rfl, hs, by simp, fun m hm hle => ?_⟩
    have : m = minI (x :: rr) := Int.le_antisymm (hle _ m1) (m2 m hm)
    rw [this]
    exact q _ H (L2.Same.refl _) (.int _)
  · obtain ⟨x, rr, ei, rfl⟩ := minOf_ok e
    obtain ⟨v, rfl, dn⟩ := dn1 h1
    obtain ⟨a, vs, rfl, hs, t⟩ := dn.tup_at
    have ev := ints_df t ei
    subst ev
    obtain ⟨m1, m2⟩ := minI_spec x rr
    obtain ⟨its, rv, ht, _⟩ := I.tuple hs
    rw [Vals.ref1 r]
    refine min_tup (I.ok.hd hc) (show s.heap.IsTuple a its.toArray from ht) rv.ints (by simp) fun h' tk m t' hk hm hle => ?_
    have : m = minI (x :: rr) := Int.le_antisymm (hle _ m1) (m2 m hm)
    subst this
    exact ⟨.int _, H, I.kept hk, ⟨_, rfl⟩, q _ H (L2.Same.refl _) (.int _)⟩
  · cases e
theorem c_sum (hc : X.calm = true) : CallR X (.builtin "sum") (cbRd X.K sumD) := by
  intro pins s σ H xs us Q I r h
  obtain ⟨ds, z, h1, e, q⟩ := h
  unfold sumD at e
  split at e
  · rename_i ys
    cases eb : intsD ys with
    | none => rw [eb] at e; cases e
    | some bs =>
      rw [eb] at e; cases e
      obtain ⟨v, rfl, dn⟩ := dn1 h1
      obtain ⟨a, vs, rfl, hs, t⟩ := dn.list_at
      have ev := ints_df t eb
      subst ev
      exact cr_sum hc pins s σ H _ us Q I r ⟨a, bs, rfl, hs, q _ H (L2.Same.refl _) (.int _)⟩
  · rename_i ys
    cases eb : intsD ys with
    | none => rw [eb] at e; cases e
    | some bs =>
      rw [eb] at e; cases e
      obtain ⟨v, rfl, dn⟩ := dn1 h1
      obtain ⟨a, vs, rfl, hs, t⟩ := dn.tup_at
      have ev := ints_df t eb
      subst ev
      obtain ⟨its, rv, ht, _⟩ := I.tuple hs
      rw [Vals.ref1 r]
      have hi := rv.ints
      obtain ⟨xs, hx⟩ := hi.allInts.items
      have hn : numsOf its.toArray.toList = bs := by rw [show its.toArray.toList = its from rfl, hi.numsOf]
      have ht' : s.heap.IsTuple a its.toArray := ht
      rw [hx] at ht' hn
      rw [nums_intItems] at hn
      refine PySem.W.ktm_sumG (I.ok.hd hc) ht' fun h' tk t' hk => ?_
      rw [preSum_eq, List.take_of_length_le (by simp), hn]
      exact ⟨.int _, H, I.kept hk, ⟨_, rfl⟩, q _ H (L2.Same.refl _) (.int _)⟩
  · cases e
end
end Pi

set_option Elab.async false
set_option linter.all false
set_option maxRecDepth 100000
/-! Pi10: enumerate of a tuple or a list. -/
namespace Pi
open PySem PySem.Spec PyProof.Rows L2

set_option maxHeartbeats 1000000 in
theorem meets_enumB {v : Value} {o : Obj} {G : Heap → Prop} (B : Begins v o G) :
    Meets (Builtin.«enumerate.__new__» ⟨[.type "enumerate", v], []⟩) (fun _ R s => G s.heap ∧
      R (.ok (.ret (.ref (s.heap.push o).objs.size))) { s with heap := (s.heap.push o).push { cls := .type "enumerate", data := .fields #[.none, .bool false, .ref s.heap.objs.size, rawInt 0, .none, .none] } }) :=
  .of_wp fun prog w A R s h => by
    obtain ⟨hp, g, d, tk, os⟩ := s; obtain ⟨hg, h⟩ := h
    have hsub := sub_enumerate
    have hb : ∀ {A' : Around} {E : Value → Shared → Prop} {Q : Value → Shared → Prop}, Q (.ref hp.objs.size) ⟨hp.push o, g, d, tk, os⟩ → wpAny (model prog w) A' (pyIter v) Q E ⟨hp, g, d, tk, os⟩ := fun q => B.iter prog w _ _ ⟨hp, g, d, tk, os⟩ _ hg q
    wp_walk using hb
    refine (wpAny_stack_any fun z => wpAny_pure ?_)
    split
    · rename_i c _ _ _ _ _
      cases (c == Value.type "enumerate")
      · wp_walk using hb
        exact ⟨_, rfl, h⟩
      · wp_walk using hb
        exact ⟨_, rfl, h⟩
    · wp_walk using hb
      exact ⟨_, rfl, h⟩
section
variable {prog : Program} {w : World} {A : Around} {E : Value → Shared → Prop} {s : Shared}
theorem call_enumB {v : Value} {o : Obj} {G : Heap → Prop} {Q : Value → Shared → Prop} (B : Begins v o G) (hg : G s.heap)
    (h : ∀ h', IsEnum h' (s.heap.objs.size + 1) s.heap.objs.size 0 .none → h'.get? s.heap.objs.size = some o → (∀ b o, s.heap.get? b = some o → h'.get? b = some o) → Q (.ref (s.heap.objs.size + 1)) { s with heap := h' }) :
    wpAny (model prog w) A (call (.type "enumerate") [v]) Q E s := by
  refine callType_new F.called_enumerate (by decide) (F.typeCall_enumerate_1 _) (F.newCall_enumerate_1 _) (fun obj => F.args_object_init_2 obj _) F.entry_enumerate_new (meets_enumB B) ⟨hg, ?_⟩
  have hz : (s.heap.push o).objs.size = s.heap.objs.size + 1 := Heap.size_push ..
  show _ ∧ _
  rw [hz]
  have he : IsEnum ((s.heap.push o).push { cls := .type "enumerate", data := .fields #[.none, .bool false, .ref s.heap.objs.size, rawInt 0, .none, .none] }) (s.heap.objs.size + 1) s.heap.objs.size 0 .none := by
    have e := Heap.get?_push_size (s.heap.push o) (o := { cls := .type "enumerate", data := .fields #[.none, .bool false, .ref s.heap.objs.size, rawInt 0, .none, .none] }) rfl
    rw [hz] at e
    exact e
  refine ⟨⟨_, he, rfl⟩, h _ he ?_ fun b o x => ?_⟩
  · exact Heap.get?_push_of_some _ (Heap.get?_push_size _ B.free)
  · exact Heap.get?_push_of_some _ (Heap.get?_push_of_some _ x)
end
/-- the tuple at a, each item in a new pair -/
def Iteu (K : PySem.W.Frag) (a : Addr) (xs : List V) : It :=
  ⟨fun i H => SqT K H a xs ∧ i < xs.length, fun i H v H' => ∃ T x, v = .ref T ∧ H T = none ∧ H' = upd H T (.tup [.int (i : Nat), x]) ∧ xs[i]? = some x, fun i H => SqT K H a xs ∧ xs.length ≤ i⟩
theorem turn_enumT {P : Program} {w : World} {K : PySem.W.Frag} {elts : List Expr} {kk : Nat} {tpos : Pos} (a e it : Addr) (xs : List V) (hae : a ≠ e) (hai : a ≠ it) :
    Turn P w K (.Tuple elts kk tpos) (Iteu K a xs) [e, it] e (fun i h => (∃ old, IsEnum h e it ((i : Nat) : Int) old) ∧ h.IsTupleIter it a i ∧ e ≠ it ∧ i ≤ xs.length) where
  mem := by simp
  obj := fun i h st b hb => by
    obtain ⟨⟨old, he⟩, ⟨o, ho, hc, hd⟩, _⟩ := st
    rcases (by simpa using hb : b = e ∨ b = it) with z | z
    · rw [z]; exact ⟨_, he, fun v q => nomatch q⟩
    · rw [z]; exact ⟨o, ho, fun v q => by rw [hd] at q; cases q⟩
  keep := fun i h h' st k => by
    obtain ⟨⟨old, he⟩, hi, hne, hl⟩ := st
    exact ⟨⟨old, k e (by simp) _ he⟩, hi.at fun o q => k it (by simp) o q, hne, hl⟩
  item := by
    intro X hP hw hK hc i pins s σ H E I hf st hg
    subst hP hw hK
    obtain ⟨⟨old, he⟩, hit, hne, hle⟩ := st
    obtain ⟨hq, hi⟩ := hg
    obtain ⟨x, hx⟩ : ∃ x, xs[i]? = some x := ⟨_, List.getElem?_eq_getElem hi⟩
    obtain ⟨its, rv, p, _⟩ := I.tuple hq
    have p : s.heap.IsTuple a its.toArray := p
    obtain ⟨u, hu, ru⟩ := rv.get hx
    have hel : e < s.heap.objs.size := Heap.lt_size he
    have hil : it < s.heap.objs.size := by obtain ⟨_, q, _⟩ := hit; exact Heap.lt_size q
    have hlt : i < its.toArray.size := by
      have := (List.getElem?_eq_some_iff.mp hu).1
      simpa using this
    refine wpAny_pyNext_enum_itemD (Draws.tuple (A := X.A.in1) (I.ok.hd hc) it a hai its.toArray) he ⟨hit, p⟩ hlt hne (by simp [hne, Ne.symm hae]) fun y h' tk hy ho hst' hT hsz hk => ?_
    have ey : y = u := by
      have q1 : its[i]? = some y := by simpa using hy
      rw [hu] at q1
      exact (Option.some.inj q1).symm
    subst ey
    refine ⟨_, rfl, wpAny_letOwnedTupleGo_enum (s := { s with heap := h', toks := tk + 1 }) ho fun h'' he' sb => ?_⟩
    have hT2 : h''.get? s.heap.objs.size = some { cls := .type "tuple", data := .seq #[.int i tk, y] } := (sb.2 _ (Nat.ne_of_gt hel)).trans hT
    have new : ObjOk X.prog X.w (upd H s.heap.objs.size (.tup [.int (i : Nat), x])) h'' s.heap.objs.size (.tup [.int (i : Nat), x]) := ⟨by show 2 ≤ sizeLine; decide, [.int i tk, y], .cons ⟨_, rfl⟩ (.cons ru .nil), ⟨_, hT2, rfl, _, rfl⟩⟩
    have I1 : Inv X pins σ (upd H s.heap.objs.size (.tup [.int (i : Nat), x])) { s with heap := h'', toks := tk + 1 } := I.turnedNew (ch := [e, it]) (fun b ob hb q => (sb.2 b (fun z => hb (by simp [z]))).trans (hk b ob (fun z => hb (by simp [z])) (fun z => hb (by simp [z])) q)) hf (Nat.le_refl _) new
    refine ⟨.ref s.heap.objs.size, _, I1, rfl, ⟨_, x, rfl, I.hok.fresh (Nat.le_refl _), rfl, hx⟩, ⟨⟨y, ?_⟩, ?_, hne, hi⟩, fun b hb => ?_⟩
    · have e1 : ((i + 1 : Nat) : Int) = (i : Int) + 1 := by omega
      rw [e1]; exact he'
    · exact hst'.1.at fun o q => (sb.2 it (Ne.symm hne)).trans q
    · have hb' : b < s.heap.objs.size := by
        rcases (by simpa using hb : b = e ∨ b = it) with z | z
        · rw [z]; exact hel
        · rw [z]; exact hil
      rw [upd_ne (Nat.ne_of_lt hb')]
      exact (hf b hb).1
  done := by
    intro X hP hw hK hc i pins s σ H E I hf st hg
    subst hP hw hK
    obtain ⟨⟨old, he⟩, hit, hne, hle⟩ := st
    obtain ⟨hq, hx⟩ := hg
    obtain ⟨its, rv, p, _⟩ := I.tuple hq
    have p : s.heap.IsTuple a its.toArray := p
    obtain ⟨f0, f1, f2, f3, f4, f5⟩ := hf it (by simp)
    have hl := rv.length
    have hn : i = its.toArray.size := by simp; omega
    rw [hn] at hit
    exact wpAny_pyNext_enum_endD (Draws.tuple (A := X.A.in1) (I.ok.hd hc) it a hai its.toArray) he ⟨hit, p⟩ fun h' eb => ⟨rfl, I.turned (t' := s.toks) (fun b o hb q => eb b o hb q) f0 f1 f3 f4 f5⟩
  self := fun A i s Q E st h => let ⟨⟨_, he⟩, _⟩ := st; wpAny_pyIter_enum he h
def iEnumT (K : PySem.W.Frag) (ta : TA) : TI := fun σ H R => ta σ H fun vs H1 => ∃ a xs, vs = [.ref a] ∧ SqT K H1 a xs ∧ R (Iteu K a xs) H1
theorem pi_enumT {X : Cx} {e : Expr} {ta : TA} {p pos tpos : Pos} {elts : List Expr} {kk : Nat} (hg : Gl X "enumerate") (hm : X.mg "enumerate" = none) (ha : PA X [e] ta) (hs : starEach [e] X.env = [(false, eval e X.env)] := by rfl) :
    PI X (.Tuple elts kk tpos) (.Call (.Name "enumerate" p) [e] [] pos) (iEnumT X.K ta) := by
  refine ⟨fun pins s σ H R I h => Call_ (ld_blt I hg hm boot_enumerate (PyProof.Rows.callWith_type1 (thn (ha.run pos pins s σ H _ I h) fun us s1 ⟨vs, H1, I1, r1, q1⟩ => ?_) hs rfl))⟩
  obtain ⟨a, xs, ex, hq, q⟩ := q1
  subst ex
  rw [Vals.ref1 r1]
  obtain ⟨its, rv, p', hz⟩ := I1.tuple hq
  have p' : s1.heap.IsTuple a its.toArray := p'
  refine call_enumB (begins_tuple a its.toArray) p' fun h' he hit hk => wpAny_pyIter_enum he ?_
  have I2 : Inv X pins σ H1 { s1 with heap := h' } := I1.kept (t' := s1.toks) hk
  have hla : a < s1.heap.objs.size := by obtain ⟨_, q, _⟩ := p'; exact Heap.lt_size q
  refine ⟨s1.heap.objs.size + 1, [s1.heap.objs.size + 1, s1.heap.objs.size], _, _, H1, rfl, I2, turn_enumT a (s1.heap.objs.size + 1) s1.heap.objs.size xs (Nat.ne_of_lt (Nat.lt_succ_of_lt hla)) (Nat.ne_of_lt hla), ⟨⟨.none, he⟩, ⟨_, hit, rfl, rfl⟩, Nat.succ_ne_self _, Nat.zero_le _⟩, fun b hb => ?_, q⟩
  have hle : s1.heap.objs.size ≤ b := by
    rcases (by simpa using hb : b = s1.heap.objs.size + 1 ∨ b = s1.heap.objs.size) with z | z
    · rw [z]; exact Nat.le_succ _
    · rw [z]; exact Nat.le_refl _
  exact I1.fpOk hle (I1.hok.fresh hle)
theorem enumD_get : ∀ (xs : List D) (i k : Nat), (enumD k xs)[i]? = (xs[i]?).map fun x => .tuple [.int ((k + i : Nat) : Int), x]
  | [], i, k => by simp [enumD]
  | x :: xs, 0, k => by simp [enumD]
  | x :: xs, i + 1, k => by
    have := enumD_get xs i (k + 1)
    simp only [enumD, List.getElem?_cons_succ, this]
    congr 1
    funext y
    congr 4
    omega
theorem enumD_len : ∀ (xs : List D) (k : Nat), (enumD k xs).length = xs.length
  | [], _ => rfl
  | _ :: xs, k => by simp [enumD, enumD_len xs]
theorem enum_pair {K : PySem.W.Frag} {H0 H H' : Hp} {ds : List D} {xs : List V} {x : V} {T : Addr} {i : Nat} {d : D} (st : Stab H0 H) (df : DfAll K H0 xs ds) (e : (enumD 0 ds)[i]? = some d) (hT : H T = none) (hH : H' = upd H T (.tup [.int (i : Nat), x])) (hx : xs[i]? = some x) : L2.Same H H' ∧ Df K H' (.ref T) d := by
  subst hH
  have s : L2.Same H (upd H T (.tup [.int (i : Nat), x])) := fun b o q => by rw [upd_ne (ne_of_none q hT)]; exact q
  rw [enumD_get] at e
  cases q : ds[i]? with
  | none => rw [q] at e; cases e
  | some y =>
    rw [q] at e
    have e2 : PyData.tuple [.int ((0 + i : Nat) : Int), y] = d := by simpa using e
    rw [← e2, Nat.zero_add]
    obtain ⟨v', e1, dv⟩ := df.get q
    rw [hx] at e1; cases e1
    exact ⟨s, .tup (.inl (.inl upd_same)) (.cons (.int _) (.cons (Df.mono (st.trans (Same.stab s)) dv) .nil))⟩
theorem it_eT {K : PySem.W.Frag} {H0 : Hp} {a : Addr} {xs : List V} {ds : List D} (h : SqT K H0 a xs) (df : DfAll K H0 xs ds) : ItOk K H0 (enumD 0 ds) (Iteu K a xs) := fun H i st => by
  refine ⟨fun d e => ⟨⟨st.sqT h, ?_⟩, fun x H' y => ?_⟩, fun hi => ⟨st.sqT h, ?_⟩⟩
  · have := (List.getElem?_eq_some_iff.mp e).1
    rw [enumD_len] at this
    rw [df.length]; exact this
  · obtain ⟨T, z, rfl, hT, hH, hx⟩ := y
    exact enum_pair st df e hT hH hx
  · rw [enumD_len] at hi
    rw [df.length]; exact hi
theorem it_eL {K : PySem.W.Frag} {H0 : Hp} {a : Addr} {xs : List V} {ds : List D} (h : FzL K H0 a xs) (df : DfAll K H0 xs ds) : ItOk K H0 (enumD 0 ds) (Ite K a) := fun H i st => by
  refine ⟨fun d e => ?_, fun hi => ⟨xs, (st.fzL h).sq, ?_⟩⟩
  · have hl := (List.getElem?_eq_some_iff.mp e).1
    rw [enumD_len, ← df.length] at hl
    refine ⟨⟨xs, _, (st.fzL h).sq, List.getElem?_eq_getElem hl⟩, fun x H' y => ?_⟩
    obtain ⟨T, z, rfl, hT, hH, hx⟩ := y
    exact enum_pair st df e hT hH (hx xs (st.fzL h).sq)
  · rw [enumD_len] at hi
    rw [df.length]; exact hi
section
variable {X : Cx} {W : WX} {e : Expr} {m : AM} {p pos tpos : Pos} {elts : List Expr} {kk : Nat}
theorem rd_enum {K : PySem.W.Frag} {mg : Str → Option Value} {σ : L2.St} {H : Hp} {R : It → Hp → Prop} (h : rdI K mg W (mItA enum1 m) σ H R) : iEnum K (rdA K mg W m) σ H R ∨ iEnumT K (rdA K mg W m) σ H R := by
  obtain ⟨φ, ρ, S, eo, so, h⟩ := h
  unfold mItA at h
  cases q : m ρ S with
  | ok rs S1 =>
    rw [q] at h
    simp only [Res.bind_ok] at h
    split at h
    · rename_i ds q1
      unfold Res.opt enum1 at h
      match ds, h, q1 with
      | [.list xs], h, q1 =>
        left
        refine ⟨φ, ρ, S, eo, so, ?_⟩
        rw [q]
        intro φ1 H1 g1 so1 vs r1
        have df := all_df r1 q1
        cases df with
        | cons d1 t =>
          cases t
          obtain ⟨a, ys, rfl, hf, df⟩ := d1.list_at
          exact ⟨a, ys, rfl, hf.sq, h φ1 H1 g1 so1 _ _ (L2.Same.refl _) (it_eL hf df)⟩
      | [.tuple xs], h, q1 =>
        right
        refine ⟨φ, ρ, S, eo, so, ?_⟩
        rw [q]
        intro φ1 H1 g1 so1 vs r1
        have df := all_df r1 q1
        cases df with
        | cons d1 t =>
          cases t
          obtain ⟨a, ys, rfl, hf, df⟩ := d1.tup_at
          exact ⟨a, ys, rfl, hf, h φ1 H1 g1 so1 _ _ (L2.Same.refl _) (it_eT hf df)⟩
      | [], h, _ => exact h.elim
      | [.none], h, _ => exact h.elim
      | [.bool _], h, _ => exact h.elim
      | [.int _], h, _ => exact h.elim
      | [.str _], h, _ => exact h.elim
      | [.dict _], h, _ => exact h.elim
      | _ :: _ :: _, h, _ => exact h.elim
    · exact h.elim
  | ex x S1 =>
    left
    refine ⟨φ, ρ, S, eo, so, ?_⟩
    rw [q] at h ⊢
    exact h
  | no => rw [q] at h; exact h.elim
theorem i_enum (hm : X.mg "enumerate" = none) (ha : IA X W [e] m) (hg : Gl X "enumerate" := by rfl) (hs : starEach [e] X.env = [(false, eval e X.env)] := by rfl) : II X (.Tuple elts kk tpos) W (.Call (.Name "enumerate" p) [e] [] pos) (mItA enum1 m) :=
  PI.imp (PI.or (pi_enum hg hm ha hs) (pi_enumT hg hm ha hs)) fun _ _ _ h => rd_enum h
end
end Pi

set_option Elab.async false
set_option linter.all false
set_option maxRecDepth 100000
/-! Pi11: live cells changed; calls with one cell. -/
namespace Pi
open PySem PySem.Spec PyProof.Rows L2

def keyOf : D → Option L2.Key
  | .int i => some (.inl i)
  | .str x => some (.inr x)
  | _ => none
def kEq (a b : D) : Bool := match a, b with
  | .int i, .int j => decide (i = j)
  | .str x, .str y => decide (x = y)
  | _, _ => false
def getKv (kvs : List (D × R)) (k : D) : Option R := (kvs.find? fun p => kEq p.1 k).map (·.2)
def putKv (kvs : List (D × R)) (k : D) (r : R) : List (D × R) := if (kvs.any fun p => kEq p.1 k) = true then kvs.map fun p => if kEq p.1 k = true then (p.1, r) else p else kvs ++ [(k, r)]
/-- o[i] = v -/
def putR (S : Store) (o i v : R) : Option Store := match o with
  | .ref n => match i with
    | .d j => match S[n]? with
      | some (.lst xs) => match j, v with
        | .int k, .d y => match ixN xs.length k with
          | some m => some (S.set n (.lst (xs.set m y)))
          | none => none
        | _, _ => none
      | some (.dic kvs) => match keyOf j with
        | some _ => if kvs.length < sizeLine then some (S.set n (.dic (putKv kvs j v))) else none
        | none => none
      | _ => none
    | _ => none
  | _ => none
def mPut (o i v : EM) : SM := fun ρ S => (v ρ S).out ρ fun rv S1 => (o ρ S1).out ρ fun ro S2 => (i ρ S2).out ρ fun ri S3 => match putR S3 ro ri rv with
  | some S4 => .nx ρ S4
  | none => .no
def appR (S : Store) (o v : R) : Option Store := match o, v with
  | .ref n, .d y => match S[n]? with
    | some (.lst xs) => if xs.length < sizeLine then some (S.set n (.lst (xs ++ [y]))) else none
    | _ => none
  | _, _ => none
def isL (S : Store) : R → Bool
  | .ref n => match S[n]? with
    | some (.lst _) => true
    | _ => false
  | .d _ => false
/-- o.append(v) -/
def mApp (o v : EM) : EM := fun ρ S => (o ρ S).bind fun ro S1 => match isL S1 ro with
  | true => (v ρ S1).bind fun rv S2 => match appR S2 ro rv with
    | some S3 => .ok (.d .none) S3
    | none => .no
  | false => .no
/-- name += a new list -/
def mExt (i : Nat) (l : IM) : SM := fun ρ S => match ρ[i]? with
  | some (some (.ref n)) => (l ρ S).out ρ fun ds S1 => match S1[n]? with
    | some (.lst xs) => if xs.length + ds.length ≤ sizeLine then .nx ρ (S1.set n (.lst (xs ++ ds))) else .no
    | _ => .no
  | _ => .no
/-- {} -/
def mDic0 : EM := fun _ S => .ok (.ref S.length) (S ++ [.dic []])

section
variable {K : PySem.W.Frag} {φ : List Addr} {H : Hp} {S : Store}
theorem cell_upd {n : Nat} {a : Addr} {c : Cell} {o u : HO} (so : StOk K φ H S) (ha : φ[n]? = some a) (e : H a = some o) (s : stable o = false) (hc : CellOk K φ (upd H a u) a c) : Grow φ H φ (upd H a u) ∧ StOk K φ (upd H a u) (S.set n c) := by
  have hm : a ∈ φ := List.mem_of_getElem? ha
  refine ⟨⟨List.prefix_refl _, fun b o' e' q => ?_, fun b hb => .inl hb⟩, ⟨by simp [so.len], so.nd, fun b hb => ?_, fun i b c' e1 e2 => ?_⟩⟩
  · have hne : b ≠ a := fun z => by
      subst z
      rw [e] at e'; cases e'
      rcases q with q | q
      · rw [s] at q; cases q
      · exact q hm
    rw [upd_ne hne]; exact e'
  · by_cases hb2 : b = a
    · rw [hb2]; exact ⟨_, upd_same⟩
    · obtain ⟨o', e'⟩ := so.there b hb
      exact ⟨o', by rw [upd_ne hb2]; exact e'⟩
  · by_cases hi : n = i
    · subst hi
      rw [ha] at e1; cases e1
      rw [List.getElem?_set_self (by have := (List.getElem?_eq_some_iff.mp ha).1; rw [← so.len]; exact this)] at e2
      cases e2
      exact hc
    · rw [List.getElem?_set_ne hi] at e2
      have hne : b ≠ a := fun z => by
        subst z
        have h1 := (List.getElem?_eq_some_iff.mp ha)
        have h2 := (List.getElem?_eq_some_iff.mp e1)
        obtain ⟨l1, g1⟩ := h1
        obtain ⟨l2, g2⟩ := h2
        exact hi ((List.getElem_inj so.nd).mp (g1.trans g2.symm))
      exact (so.cell i b c' e1 e2).mono (List.prefix_refl _) (upd_stab e s) fun o' e' => by rw [upd_ne hne]; exact e'
theorem keyD_of {j : D} {k : L2.Key} (e : keyOf j = some k) : keyD k = j := by
  cases j <;> simp [keyOf] at e <;> subst e <;> rfl
theorem dn_key {v : V} {j : D} {k : L2.Key} (h : Dn K H v j) (e : keyOf j = some k) : v = kV k := by
  cases j <;> simp [keyOf] at e
  · subst e; exact h.int_eq
  · subst e; exact h.str_eq
theorem kEq_iff (k k' : L2.Key) : kEq (keyD k) (keyD k') = decide (k = k') := by
  cases k <;> cases k' <;> simp [keyD, kEq]
theorem kv_any {kv : List (L2.Key × V)} {kvs : List (D × R)} (h : RelKv K φ H kv kvs) (k : L2.Key) : (kvs.any fun p => kEq p.1 (keyD k)) = kv.any fun p => decide (p.1 = k) := by
  induction h with
  | nil => rfl
  | cons h _ ih => rw [List.any_cons, List.any_cons, ih, ← h.1, kEq_iff]
theorem kv_map {kv : List (L2.Key × V)} {kvs : List (D × R)} (h : RelKv K φ H kv kvs) (k : L2.Key) {v : V} {r : R} (q : RelR K φ H v r) :
    RelKv K φ H (kv.map fun p => if p.1 = k then (p.1, v) else p) (kvs.map fun p => if kEq p.1 (keyD k) = true then (p.1, r) else p) := by
  induction h with
  | nil => exact .nil
  | @cons p t p' t' h _ ih =>
    refine .cons ?_ ih
    show keyD ((fun p : L2.Key × V => if p.1 = k then (p.1, v) else p) p).1 = (if kEq t.1 (keyD k) = true then (t.1, r) else t).1 ∧ RelR K φ H ((fun p : L2.Key × V => if p.1 = k then (p.1, v) else p) p).2 (if kEq t.1 (keyD k) = true then (t.1, r) else t).2
    rw [← h.1, kEq_iff]
    by_cases e : p.1 = k
    · rw [show decide (p.1 = k) = true from decide_eq_true e, if_pos rfl]
      show keyD (if p.1 = k then (p.1, v) else p).1 = _ ∧ RelR K φ H (if p.1 = k then (p.1, v) else p).2 _
      rw [if_pos e]; exact ⟨rfl, q⟩
    · rw [show decide (p.1 = k) = false from decide_eq_false e, if_neg Bool.false_ne_true]
      show keyD (if p.1 = k then (p.1, v) else p).1 = _ ∧ RelR K φ H (if p.1 = k then (p.1, v) else p).2 _
      rw [if_neg e]; exact ⟨h.1, h.2⟩
theorem kv_app {K : PySem.W.Frag} {φ : List Addr} {H : Hp} : ∀ {kv kv2 : List (L2.Key × V)} {kvs kvs2 : List (D × R)}, RelKv K φ H kv kvs → RelKv K φ H kv2 kvs2 → RelKv K φ H (kv ++ kv2) (kvs ++ kvs2)
  | _, _, _, _, .nil, s => s
  | _, _, _, _, .cons h t, s => .cons h (kv_app t s)
theorem kv_put {kv : List (L2.Key × V)} {kvs : List (D × R)} (h : RelKv K φ H kv kvs) {k : L2.Key} {j : D} (ej : keyOf j = some k) {v : V} {r : R} (q : RelR K φ H v r) : RelKv K φ H (putK kv k v) (putKv kvs j r) := by
  obtain rfl := keyD_of ej
  unfold putK putKv
  rw [kv_any h]
  split
  · exact kv_map h k q
  · exact kv_app h (.cons ⟨rfl, q⟩ .nil)
theorem kv_len {K : PySem.W.Frag} {φ : List Addr} {H : Hp} : ∀ {kv : List (L2.Key × V)} {kvs : List (D × R)}, RelKv K φ H kv kvs → kv.length = kvs.length
  | _, _, .nil => rfl
  | _, _, .cons _ t => by rw [List.length_cons, List.length_cons, kv_len t]
theorem kv_get {kv : List (L2.Key × V)} {kvs : List (D × R)} (h : RelKv K φ H kv kvs) (k : L2.Key) : match getKv kvs (keyD k) with
    | some r => ∃ v, valV kv k = some v ∧ RelR K φ H v r
    | none => valV kv k = none := by
  induction h with
  | nil => rfl
  | @cons p t p' t' h _ ih =>
    unfold getKv at ih ⊢
    rw [List.find?_cons, ← h.1, kEq_iff]
    by_cases e : p.1 = k
    · rw [decide_eq_true e]
      exact ⟨p.2, valV_pos e, h.2⟩
    · rw [decide_eq_false e, valV_neg e]
      exact ih
end
section
variable {X : Cx} {W : WX} {o i e : Expr} {mo mi mv : EM} {pos pos' apos cpos : Pos}
theorem PSet.or {t t' : TSet} (h : PSet X t) (h' : PSet X t') : PSet X (fun o i v H Q => t o i v H Q ∨ t' o i v H Q) := fun pins s σ H o i v ov iv u Q I ro ri rv q => q.elim (h pins s σ H o i v ov iv u Q I ro ri rv) (h' pins s σ H o i v ov iv u Q I ro ri rv)
theorem put_set {K : PySem.W.Frag} {φ : List Addr} {H : Hp} {S S4 : Store} {ro ri rv : R} {o i v : V} {Q : Hp → Prop} (so : StOk K φ H S) (qo : RelR K φ H o ro) (qi : RelR K φ H i ri) (qv : RelR K φ H v rv) (e : putR S ro ri rv = some S4)
    (h : ∀ H', Grow φ H φ H' → StOk K φ H' S4 → Q H') : rSetL o i v H Q ∨ rSetD o i v H Q := by
  unfold putR at e
  split at e
  · rename_i n
    split at e
    · rename_i j
      obtain ⟨a, ha, rfl⟩ := qo
      split at e
      · rename_i xs es
        split at e
        · rename_i k y
          split at e
          · rename_i m em
            cases e
            obtain ⟨vs, q1, q2⟩ := so.cell n a _ ha es
            cases qi
            left
            have eh := cell_upd (c := .lst (xs.set m y)) (u := .lst (vs.set m v)) so ha q1 rfl ⟨_, upd_same, DfAll.set (Df.mono (upd_stab q1 rfl) qv) m (DfAll.mono (upd_stab q1 rfl) q2)⟩
            exact ⟨a, vs, k, m, rfl, rfl, q1, by rw [q2.length]; exact em, h _ eh.1 eh.2⟩
          · cases e
        · cases e
      · rename_i kvs es
        split at e
        · rename_i k ek
          split at e
          · rename_i hl
            cases e
            obtain ⟨kv, q1, q2⟩ := so.cell n a _ ha es
            right
            have hi : i = kV k := dn_key (.of qi) ek
            have eh := cell_upd (c := .dic (putKv kvs j rv)) (u := .dK (putK kv k v)) so ha q1 rfl ⟨_, upd_same, kv_put (RelKv.mono (List.prefix_refl _) (upd_stab q1 rfl) q2) ek (RelR.mono (List.prefix_refl _) (upd_stab q1 rfl) qv)⟩
            exact ⟨a, _, rfl, .inl ⟨kv, k, q1, hi, by rw [kv_len q2]; exact hl, rfl⟩, h _ eh.1 eh.2⟩
          · cases e
        · cases e
      · cases e
    · cases e
  · cases e
theorem is_put (hu : X.A.units + 128 < cLine) (hv : IE X W e mv) (ho : IE X W o mo) (hi : IE X W i mi)
    (ha : ∀ v, assign (.Subscript o i pos') X.env v = (do
      let ov ← holding [v] (eval o X.env)
      let iv ← holding [v, ov] (eval i X.env)
      standAt pos'
      holding [v, ov, iv] (setItem ov iv v)
      release [v, ov, iv] []) := by intros; rfl)
    (hs : swapsWithSole [.Subscript o i pos'] e pos.line X.env = pure false := by rfl) (hw : swappedStores [.Subscript o i pos'] e X.env = pure none := by rfl) (h1 : (assignEach [.Subscript o i pos'] X.env).map (·.2) = [assign (.Subscript o i pos') X.env] := by rfl) :
    IS X W (.Assign [.Subscript o i pos'] e pos) (mPut mo mi mv) := PS.imp (ps_asg hv (pg_sub ho hi (PSet.or set_list (set_dict (by omega))) ha) hs hw h1) fun D σ H h => by
  obtain ⟨φ, ρ, S, eo, so, h⟩ := h
  refine ⟨φ, ρ, S, eo, so, (EndS.out eo h).imp fun rv φ1 S1 H1 _ g1 so1 h1 v q1 => ?_⟩
  refine ⟨φ1, ρ, S1, eo.grow g1, so1, (EndS.out (eo.grow g1) h1).imp fun ro φ2 S2 H2 _ g2 so2 h2 ov q2 => ?_⟩
  refine ⟨φ2, ρ, S2, (eo.grow g1).grow g2, so2, (EndS.out ((eo.grow g1).grow g2) h2).imp fun ri φ3 S3 H3 _ g3 so3 h3 iv q3 => ?_⟩
  split at h3
  · rename_i S4 e4
    exact put_set so3 (q2.grow g3) q3 ((q1.grow g2).grow g3) e4 fun H' g' so' => h3 φ3 σ H' g' so' (((eo.grow g1).grow g2).grow g3 |>.grow g')
  · exact h3.elim
theorem i_app (ho : IE X W o mo) (he : IE X W e mv) (hbase : attributeBase o "append" X.env (eval o X.env) = eval o X.env := by rfl)
    (hfew : ((backTo cpos (starEach [e] X.env)).all (fun x => !x.1) && (backToKw cpos (keywordEach [] X.env)).all (fun x => x.1.isSome) && decide ([e].length + ([] : List Keyword).length + (if ([] : List Keyword).isEmpty then 0 else 1) < 30)) = true := by rfl)
    (hline : (apos.endLine == cpos.line) = true := by rfl) (hs : starEach [e] X.env = (false, eval e X.env) :: starEach [] X.env := by rfl) (hplain : (backTo cpos (starEach [] X.env)).any (·.1) = false := by rfl) :
    IE X W (.Call (.Attribute o "append" apos) [e] [] cpos) (mApp mo mv) := PE.imp (pe_bm PySem.F.plainAttrs_list PySem.F.slot_list_append PySem.F.type_list_append mt_append ho (pa_cons he pa_nil hs) hbase hfew hline hs hplain) fun σ H Q h => by
  obtain ⟨φ, ρ, S, eo, so, h⟩ := h
  refine ⟨φ, ρ, S, eo, so, (EndR.bind h).imp fun ro φ1 S1 H1 _ g1 so1 h1 x q1 => ?_⟩
  split at h1
  · rename_i hl
    unfold isL at hl
    cases ro with
    | d y => cases hl
    | ref n =>
      simp only at hl
      split at hl
      · rename_i ys es
        obtain ⟨a, ha, rfl⟩ := q1
        obtain ⟨vs, e1, e2⟩ := so1.cell n a _ ha es
        refine ⟨.inl ⟨rfl, vs, .inl (.inl e1)⟩, ?_⟩
        refine ⟨φ1, ρ, S1, eo.grow g1, so1, (EndR.bind h1).imp fun rv φ2 S2 H2 _ g2 so2 h2 y q2 => ?_⟩
        split at h2
        · rename_i S3 e3
          cases rv with
          | ref _ => cases e3
          | d z =>
            unfold appR at e3
            simp only at e3
            split at e3
            · rename_i xs es2
              split at e3
              · rename_i hz
                cases e3
                have ha2 := g2.at_ ha
                obtain ⟨ws, f1, f2⟩ := so2.cell n a _ ha2 es2
                have eh := cell_upd (c := .lst (xs ++ [z])) (u := .lst (ws ++ [y])) so2 ha2 f1 rfl ⟨_, upd_same, (DfAll.mono (upd_stab f1 rfl) f2).append (.cons (Df.mono (upd_stab f1 rfl) q2) .nil)⟩
                refine ⟨a, ws, y, rfl, rfl, f1, by rw [f2.length]; exact hz, h2 φ2 _ eh.1 eh.2 _ .non⟩
              · cases e3
            · cases e3
        · exact h2.elim
      · cases hl
  · exact h1.elim
theorem is_ext (i : Nat) {x : Str} {e : Expr} {l : IM} {px : Pos} (hN : X.N.Nodup) (he : IN X W e l) (hi : X.N[i]? = some x := by rfl) (hx : Loc X.env.scope x := by first | exact Or.inl rfl | exact Or.inr rfl)
    (hf : X.fn x = true ∨ X.env.scope.names.lookup x = some .local := by first | exact .inl rfl | exact .inr rfl | assumption) : IS X W (.AugAssign (.Name x px) .Add e pos) (mExt i l) := PS.imp (ps_aug hN hi hx he iop_ext hf) fun D σ H h => by
  obtain ⟨φ, ρ, S, eo, so, h⟩ := h
  unfold mExt at h
  split at h
  · rename_i n en
    obtain ⟨v, e1, a, ha, rfl⟩ := eo.at_ i _ en
    refine ⟨_, e1, φ, ρ, S, eo, so, ?_⟩
    have h' := EndS.out eo h
    cases q : l ρ S with
    | ok ds S1 =>
      rw [q] at h'
      intro φ1 H1 g1 so1 p vs n1 np ep df
      have h2 := h' φ1 H1 g1 so1
      simp only at h2
      split at h2
      · rename_i xs es
        split at h2
        · rename_i hz
          have ha2 := g1.at_ ha
          obtain ⟨ws, f1, f2⟩ := so1.cell n a _ ha2 es
          have eh := cell_upd (c := .lst (xs ++ ds)) (u := .lst (ws ++ vs)) so1 ha2 f1 rfl ⟨_, upd_same, DfAll.mono (upd_stab f1 rfl) (f2.append df)⟩
          refine ⟨a, p, ws, vs, rfl, rfl, f1, ep, by rw [f2.length, df.length]; exact hz, ?_⟩
          have eo2 := ((eo.grow g1).grow eh.1).set (r := .ref n) (v := .ref a) ⟨a, ha2, rfl⟩ i
          have es2 : ρ.set i (some (.ref n)) = ρ := by
            refine List.ext_getElem? fun j => ?_
            by_cases hj : i = j
            · subst hj
              rw [List.getElem?_set_self (List.getElem?_eq_some_iff.mp en).1, en]
            · rw [List.getElem?_set_ne hj]
          rw [es2] at eo2
          exact h2 φ1 _ _ eh.1 eh.2 eo2
        · exact h2.elim
      · exact h2.elim
    | ex y S1 =>
      rw [q] at h'
      exact h'
    | no => rw [q] at h'; exact h'
  · exact h.elim
theorem i_dic0 : IE X W (.Dict [] [] pos) mDic0 := PE.imp pe_dnewK fun σ H Q h p hp => by
  obtain ⟨φ, ρ, S, eo, so, h⟩ := h
  have np : p ∉ φ := so.free hp
  have sm : L2.Same H (upd H p (.dK [])) := fun b o e => by rw [upd_ne (ne_of_none e hp)]; exact e
  have so1 := so.same sm
  refine h (φ ++ [p]) _ ⟨List.prefix_append _ _, fun b o e _ => sm b o e, fun b hb => ?_⟩ ⟨by simp [so.len], ?_, fun b hb => ?_, fun i b c e1 e2 => ?_⟩ _ ⟨p, ?_, rfl⟩
  · rcases List.mem_append.mp hb with hb | hb
    · exact .inl hb
    · rw [List.mem_singleton.mp hb]; exact .inr hp
  · exact List.nodup_append.mpr ⟨so.nd, by simp, fun a ha b hb => by rw [List.mem_singleton.mp hb]; exact fun z => np (z ▸ ha)⟩
  · rcases List.mem_append.mp hb with hb | hb
    · exact so1.there b hb
    · rw [List.mem_singleton.mp hb]; exact ⟨_, upd_same⟩
  · by_cases hi : i < φ.length
    · rw [List.getElem?_append_left hi] at e1
      rw [List.getElem?_append_left (by rw [← so.len]; exact hi)] at e2
      exact (so1.cell i b c e1 e2).mono (List.prefix_append _ _) (fun _ _ _ e => e) fun _ e => e
    · have hi' : i = φ.length := by
        have := (List.getElem?_eq_some_iff.mp e1).1
        simp at this; omega
      subst hi'
      rw [List.getElem?_append_right (Nat.le_refl _), Nat.sub_self] at e1
      rw [so.len, List.getElem?_append_right (Nat.le_refl _), Nat.sub_self] at e2
      simp at e1 e2
      subst e1; subst e2
      exact ⟨[], upd_same, .nil⟩
  · rw [← so.len, List.getElem?_append_right (Nat.le_refl _), Nat.sub_self]; rfl
/-- a call whose first argument alone is a cell -/
theorem rd_call1 {K : PySem.W.Frag} {mg : Str → Option Value} {n : Nat} {F : Fn} {am : AM} {σ : L2.St} {H : Hp} {Q : VK} (hn : ∀ ρ S rs S1, am ρ S = .ok rs S1 → rs.length = n) (h : rdE K mg W (mCall1 F am) σ H Q) : tCallS (spF K mg n F) (WE W) (rdA K mg W am) σ H Q := by
  obtain ⟨φ, ρ, S, eo, so, h⟩ := h
  refine ⟨φ, ρ, S, eo, so, (EndR.bind h).imp fun rs φ1 S1 H1 ea g1 so1 h1 vs r1 => ?_⟩
  split at h1
  · rename_i i r
    split at h1
    · rename_i ds q
      have hl : vs.length = n := by rw [RelRs.length r1]; exact hn _ _ _ _ ea
      cases r1 with
      | @cons v1 _ vs' _ rv rt =>
      obtain ⟨a, ha, rfl⟩ := rv
      unfold run1 at h1
      split at h1
      · rename_i xs es
        obtain ⟨ws, e1, e2⟩ := so1.cell i a _ ha es
        have df := all_df rt q
        have hm : a ∈ φ1 := List.mem_of_getElem? ha
        refine ⟨[a], .ref 0 :: ds.map .d, [.lst xs], hl, ⟨rfl, by simp, fun b hb => by rw [List.mem_singleton.mp hb]; exact ⟨_, e1⟩, fun j b c f1 f2 => ?_⟩, .cons ⟨a, rfl, rfl⟩ df.rel, ?_⟩
        · cases j with
          | zero => simp at f1 f2; subst f1; subst f2; exact ⟨ws, e1, e2⟩
          | succ j => simp at f1
        · split at h1
          · rename_i z ys T q2
            rw [q2]
            intro φ' v H' g so' r'
            have kp : ∀ b o, H1 b = some o → b ≠ a → H' b = some o := fun b o e hb => g.keep b o e (.inr (by simpa using hb))
            have gg : Grow φ1 H1 φ1 H' := ⟨List.prefix_refl _, fun b o e qq => g.keep b o e (qq.imp id fun h hb => h (by rw [List.mem_singleton.mp hb]; exact hm)), fun b hb => .inl hb⟩
            have ha' : φ'[0]? = some a := g.at_ (i := 0) rfl
            have c0 := so'.cell 0 a (.lst ys) ha' rfl
            obtain ⟨us, f1, f2⟩ := c0
            refine h1 φ1 H' gg ⟨by simp [so1.len], so1.nd, fun b hb => ?_, fun j b c k1 k2 => ?_⟩ v r'
            · by_cases hb2 : b = a
              · rw [hb2]; exact ⟨_, f1⟩
              · obtain ⟨o, e⟩ := so1.there b hb
                exact ⟨o, kp b o e hb2⟩
            · by_cases hj : i = j
              · subst hj
                rw [ha] at k1; cases k1
                rw [List.getElem?_set_self (by rw [← so1.len]; exact (List.getElem?_eq_some_iff.mp ha).1)] at k2
                cases k2
                exact ⟨us, f1, f2⟩
              · rw [List.getElem?_set_ne hj] at k2
                have hne : b ≠ a := fun zz => by
                  subst zz
                  obtain ⟨l1, g1⟩ := List.getElem?_eq_some_iff.mp ha
                  obtain ⟨l2, g2⟩ := List.getElem?_eq_some_iff.mp k1
                  exact hj ((List.getElem_inj so1.nd).mp (g1.trans g2.symm))
                exact (so1.cell j b c k1 k2).mono (List.prefix_refl _) gg.stab fun o e => kp b o e hne
          · exact h1.elim
      · exact h1.elim
    · exact h1.elim
  · exact h1.elim
theorem i_call1 {x : Str} {n k : Nat} {F : Fn} {e : Expr} {es : List Expr} {am : AM} {p pos : Pos} (h : Fx X.prog X.w X.K X.mg X.base x n k F) (hr : Room k X.A) (tk : Takes X W) (ha : IA X W (e :: es) am) (hn : ∀ ρ S rs S1, am ρ S = .ok rs S1 → rs.length = n) (hg : Gl X x := by rfl) (hdb : (x == ("__debug__" : Str)) = false := by decide)
    (he : starEach (e :: es) X.env = (false, eval e X.env) :: starEach es X.env := by rfl) (hpl : (backTo pos (starEach es X.env)).any (·.1) = false := by rfl) : IE X W (.Call (.Name x p) (e :: es) [] pos) (mCall1 F am) :=
  PE.imp (call_core h hr tk ha hg hdb he hpl) fun _ _ _ h => rd_call1 hn h
/-- where nothing is said of an expression -/
def mNo : EM := fun _ _ => .no
theorem i_no {e : Expr} : IE X W e mNo := ⟨fun pins s σ H Q I h => by obtain ⟨φ, ρ, S, eo, so, h⟩ := h; exact h.elim⟩
def mNoS : SM := fun _ _ => .no
theorem is_no {st : Stmt} : IS X W st mNoS := ⟨fun pins s σ H D I h => by obtain ⟨φ, ρ, S, eo, so, h⟩ := h; exact h.elim⟩
end
end Pi

set_option Elab.async false
set_option linter.all false
set_option maxRecDepth 100000
/-! PiSet: set(l), l a list of ints (the kit has it of a tuple). -/
namespace Pi
open PySem PySem.Spec PyProof.Rows L2 HT

abbrev noSet (w : World) : Obj := { cls := .type "set", dict := none, data := .set #[] 0 (.fresh 0 0 (!w.params.followText "set-order")) }
section
variable {P : Program} {w : World} {A : Around} {E : Value → Shared → Prop} {s : Shared} {l : Addr} {items : Array Value}
set_option maxHeartbeats 3200000 in
theorem call_setL (ns : List Int) {Q : Value → Shared → Prop} (hh : A.handled = none) (hl : s.heap.IsList l items) (ia : IntsAre items.toList ns) (hb : ns.length + 1 < scanBound)
    (h : ∀ (hp : Heap) (tk c : Nat), SetR w hp s.heap.objs.size (fun j => decide (j ∈ ns)) c → c ≤ ns.length → (∀ b o, s.heap.get? b = some o → hp.get? b = some o) → Q (.ref s.heap.objs.size) { s with heap := hp, toks := tk }) :
    wpAny (model P w) A (call (.type "set") [.ref l]) Q E s := by
  have sz : items.size = ns.length := by have q := IntsAre.length ia; rw [Array.length_toList] at q; exact q
  obtain ⟨c, tl, hmro⟩ := F.called_set.mro
  have m1 := F.called_set.made
  have m2 := F.called_set.sub
  refine wpAny_call (codeAny_of_tree ?_)
  show wpAny _ _ (callAny (.type "set") _) _ _ _
  refine wpAny_pure ⟨(Code.quiet_builtin _ (by decide +kernel)), codeAny_builtin F.entry_type_call ?_⟩
  rw [Around.under_plain (weight_type_call_type "set" [.ref l] []) (by rfl)]
  have m3 := F.called_set.notType
  have m4 := F.called_set.canCreate
  have m5 := F.typeCall_set_1 (.ref l)
  repeat (any_goals (first | assumption | wp_step))
  refine codeAny_mono (code_set_led1 (.ref l) (E := E) (Q₁ := fun ob s1 => ob = .ref s.heap.objs.size ∧ s1 = { s with heap := s.heap.push (noSet w) }) ⟨rfl, rfl⟩) fun r s1 hr => ?_
  cases r with
  | error e => exact hr
  | ok fl =>
    cases fl with
    | ret ob =>
      obtain ⟨rfl, rfl⟩ := hr
      have gS : (s.heap.push (noSet w)).get? s.heap.objs.size = some (noSet w) := Heap.get?_push_size _ rfl
      have tS : Shared.TypeIs { s with heap := s.heap.push (noSet w) } (.ref s.heap.objs.size) "set" := ⟨_, gS, rfl⟩
      have n1 := F.called_set.init.lookup
      have n2 := F.called_set.init.bind (.ref s.heap.objs.size)
      repeat (any_goals (first | assumption | wp_step))
      refine codeAny_mono (codeAny_call_builtin (R := wants (fun r s2 => r = .none ∧ ∃ hp tk c, s2 = { s with heap := hp, toks := tk } ∧ SetR w hp s.heap.objs.size (fun j => decide (j ∈ ns)) c ∧ c ≤ ns.length ∧ (∀ b o, s.heap.get? b = some o → hp.get? b = some o)) E) F.called_set.init.plain F.entry_set_init (check_set_init_1 tS ?_)) fun r2 s2 hr2 => ?_
      · obtain ⟨⟨ocls, od, odat, osl⟩, ho, hcl, nl, hdl⟩ := hl
        simp only at hcl hdl
        subst hcl
        subst hdl
        have ho2 : (s.heap.push (noSet w)).get? l = some { cls := .type "list", dict := od, data := .seq items nl, slots := osl } := Heap.get?_push_of_some _ ho
        have q1 := F.sub_list_set
        have q2 := F.sub_list_frozenset
        have q3 : (Value.type "list" == Value.type "dict") = false := by decide
        have q4 : (s.heap.push (noSet w)).IsList l items := ⟨_, ho2, rfl, nl, rfl⟩
        unfold Builtin.«set.__init__» noKeywords Builtin.Frozenset.updateFrom
        generalize hPI : pyIter = PI
        wp_walk
        subst hPI
        refine wpAny_pyIter_list q4 ?_
        refine wpAny_bind (wpAny_runValue ?_)
        have lS : l < s.heap.objs.size := Heap.lt_size ho
        have h3 : A.in1.in1.in1.handled = none := by simp [hh]
        have neI : l ≠ (s.heap.push (noSet w)).objs.size := by rw [Heap.size_push]; exact Nat.ne_of_lt (Nat.lt_succ_of_lt lS)
        have nS : s.heap.objs.size ∉ [(s.heap.push (noSet w)).objs.size, l] := by
          rw [Heap.size_push]
          simp only [List.mem_cons, List.not_mem_nil, or_false, not_or]
          exact ⟨Nat.ne_of_lt (Nat.lt_succ_self _), Nat.ne_of_gt lS⟩
        have vals : ∀ (i : Nat) (v : Value), items[i]? = some v → ∃ k t, ns[i]? = some k ∧ v = .int k t := fun i v hv => by
          have hi : i < ns.length := by rw [← sz]; exact (Array.getElem?_eq_some_iff.mp hv).1
          obtain ⟨t, e⟩ := PyProof.Rows.IntsAre.int_at ia i v (by rw [Array.getElem?_toList]; exact hv)
          exact ⟨ns[i], t, List.getElem?_eq_getElem hi, by rw [e, List.getD_eq_getElem?_getD, List.getElem?_eq_getElem hi] <;> rfl⟩
        refine set_update_ints ((Walks.list h3 _ l neI items).toS) s.heap.objs.size nS ns sz hb vals (items.size - 0) 0 _ (by omega) (Nat.zero_le _) ⟨⟨_, Heap.get?_push_size _ rfl, rfl, rfl⟩, (q4.push _)⟩ ?hS0 ?hR
        case hS0 => exact ⟨0, Nat.le_refl 0, setR_new_at (show ((s.heap.push (noSet w)).push { cls := .type "list_iterator", data := .fields #[.ref l, .int 0 0] }).get? s.heap.objs.size = some (noSet w) from Heap.get?_push_of_some _ gS)⟩
        case hR =>
          intro s' c' hm hc' hS'
          obtain ⟨hp, g2, d2, tk2, os2⟩ := s'
          obtain rfl : g2 = s.gens := hm.gens
          obtain rfl : d2 = s.drawn := hm.drawn
          obtain rfl : os2 = s.os := hm.os
          show wpAny _ _ _ _ _ _
          refine wpAny_pure ?_
          show wpAny _ _ (ret Value.none) _ _ _
          rw [sz] at hc'
          refine wpAny_pure ⟨rfl, hp, tk2, c', rfl, hS', hc', fun b o e => ?_⟩
          have b0 : b < s.heap.objs.size := Heap.lt_size e
          have b1 : b ≠ s.heap.objs.size := Nat.ne_of_lt b0
          have b2 : b ≠ (s.heap.push (noSet w)).objs.size := by rw [Heap.size_push]; exact Nat.ne_of_lt (Nat.lt_succ_of_lt b0)
          exact hm.heap b o (by simp only [List.mem_cons, List.not_mem_nil, or_false, not_or]; exact ⟨b1, b2⟩) (Heap.get?_push_of_some _ (Heap.get?_push_of_some _ e))
      · cases r2 with
        | error e => exact hr2
        | ok fl2 =>
          cases fl2 with
          | ret r =>
            obtain ⟨rfl, hp, tk, c', rfl, f1, f2, f3⟩ := hr2
            repeat (any_goals (first | assumption | wp_step))
            exact h _ _ _ f1 f2 f3
          | _ => exact hr2.elim
    | _ => exact hr.elim
end
end Pi

set_option Elab.async false
set_option linter.all false
set_option maxRecDepth 100000
/-! Pi12: sorted. -/
namespace Pi
open PySem PySem.Spec PyProof.Rows L2

/-! ### sorted(set(ints)) -/
def insU (x : Int) : List Int → List Int
  | [] => [x]
  | y :: r => if x < y then x :: y :: r else if x = y then y :: r else y :: insU x r
def sortU : List Int → List Int
  | [] => []
  | x :: r => insU x (sortU r)
theorem insU_mem (x k : Int) : ∀ l : List Int, k ∈ insU x l ↔ k = x ∨ k ∈ l
  | [] => by simp [insU]
  | y :: r => by
    unfold insU
    split
    · simp
    · split
      · rename_i h; subst h; simp
      · rw [List.mem_cons, insU_mem x k r, List.mem_cons]
        constructor <;> rintro (h | h | h) <;> simp [h]
theorem insU_lt (x : Int) : ∀ l : List Int, l.Pairwise (· < ·) → (insU x l).Pairwise (· < ·)
  | [], _ => by simp [insU]
  | y :: r, h => by
    obtain ⟨h1, h2⟩ := List.pairwise_cons.mp h
    unfold insU
    split
    · rename_i hl
      refine List.pairwise_cons.mpr ⟨fun z hz => ?_, h⟩
      rcases List.mem_cons.mp hz with rfl | hz
      · exact hl
      · have := h1 z hz; omega
    · split
      · exact h
      · refine List.pairwise_cons.mpr ⟨fun z hz => ?_, insU_lt x r h2⟩
        rcases (insU_mem x z r).mp hz with rfl | hz
        · omega
        · exact h1 z hz
theorem sortU_mem (k : Int) : ∀ l : List Int, k ∈ sortU l ↔ k ∈ l
  | [] => by simp [sortU]
  | x :: r => by rw [sortU, insU_mem, sortU_mem k r, List.mem_cons]
theorem sortU_lt : ∀ l : List Int, (sortU l).Pairwise (· < ·)
  | [] => by simp [sortU]
  | x :: r => insU_lt x _ (sortU_lt r)
theorem lt_unique : ∀ {a b : List Int}, a.Pairwise (· < ·) → b.Pairwise (· < ·) → (∀ k, k ∈ a ↔ k ∈ b) → a = b
  | [], [], _, _, _ => rfl
  | [], y :: t, _, _, h => absurd ((h y).mpr List.mem_cons_self) (by simp)
  | x :: r, [], _, _, h => absurd ((h x).mp List.mem_cons_self) (by simp)
  | x :: r, y :: t, ha, hb, h => by
    obtain ⟨a1, a2⟩ := List.pairwise_cons.mp ha
    obtain ⟨b1, b2⟩ := List.pairwise_cons.mp hb
    have e : x = y := by
      have h1 := (h x).mp List.mem_cons_self
      have h2 := (h y).mpr List.mem_cons_self
      rcases List.mem_cons.mp h1 with h1 | h1
      · exact h1
      · rcases List.mem_cons.mp h2 with h2 | h2
        · exact h2.symm
        · have := a1 y h2; have := b1 x h1; omega
    subst e
    rw [lt_unique a2 b2 fun k => ?_]
    constructor
    · intro hk
      rcases List.mem_cons.mp ((h k).mp (List.mem_cons_of_mem _ hk)) with e | e
      · have := a1 k hk; omega
      · exact e
    · intro hk
      rcases List.mem_cons.mp ((h k).mpr (List.mem_cons_of_mem _ hk)) with e | e
      · have := b1 k hk; omega
      · exact e
def mSortSet (l : IM) : IM := fun ρ S => (l ρ S).bind fun ds S1 => match intsD ds with
  | some ns => if ns.length < 60 then .ok ((sortU ns).map .int) S1 else .no
  | none => .no
section
variable {X : Cx} {W : WX}
def rSetL (K : PySem.W.Frag) (w : World) : List V → Hp → VK → Prop := fun vs H Q => ∃ (a : Addr) (ns : List Int), vs = [V.ref a] ∧ SqL K H a (ns.map V.int) ∧ ns.length < 60 ∧ ∀ p c, c ≤ ns.length → H p = none → Q (.ref p) (upd H p (SetO w p (fun j => decide (j ∈ ns)) c))
theorem cr_setL (hc : X.calm = true) : CallR X (.type "set") (rSetL X.K X.w) := by
  intro pins s σ H vs us Q I r h
  obtain ⟨a, ns, rfl, hs, hz, q⟩ := h
  obtain ⟨its, rv, p, _⟩ := I.list hs
  have p : s.heap.IsList a its.toArray := p.isList
  rw [Vals.ref1 r]
  refine call_setL ns (I.ok.hd hc) p rv.ints (by unfold scanBound; omega) fun hp tk c R hc' hk => ?_
  exact ⟨.ref _, _, I.laid (t' := tk) (fun b u e => hk b u e) (Nat.le_refl _) (setO_new R), rfl, q _ c hc' (I.hok.fresh (Nat.le_refl _))⟩
theorem ints_v {K : PySem.W.Frag} {H : Hp} {vs : List V} {ds : List D} {ns : List Int} (h : DfAll K H vs ds) (e : intsD ds = some ns) : vs = ns.map V.int := ints_df h e
theorem ints_dfall {K : PySem.W.Frag} {H : Hp} : ∀ ns : List Int, DfAll K H (ns.map V.int) (ns.map .int)
  | [] => .nil
  | n :: ns => .cons (.int n) (ints_dfall ns)
theorem rd_sortSet {K : PySem.W.Frag} {w : World} {mg : Str → Option Value} {l : IM} {σ : L2.St} {H : Hp} {Q : VK} (h : rdN K mg W (mSortSet l) σ H Q) :
    tCB (rSortedSet w) (tCons (tCB (rSetL K w) (tCons (rdN K mg W l) tNil)) tNil) σ H Q := by
  obtain ⟨φ, ρ, S, eo, so, h⟩ := h
  refine ⟨φ, ρ, S, eo, so, ?_⟩
  have h' := EndR.bind h
  cases q : l ρ S with
  | ok ds S1 =>
    rw [q] at h'
    intro φ1 H1 g1 so1 p vs n np ep df
    have h1 := h' φ1 H1 g1 so1
    simp only at h1
    split at h1
    · rename_i ns en
      split at h1
      · rename_i hz
        have ev := ints_df df en
        subst ev
        refine ⟨p, ns, rfl, .inl (.inl ep), hz, fun p2 c hc hp2 => ?_⟩
        have hne : p2 ≠ p := fun z => by rw [z, ep] at hp2; cases hp2
        refine ⟨p2, _, c, rfl, upd_same, by omega, fun ms p3 h1' h2' h3' hp3 => ?_⟩
        have em : ms = sortU ns := lt_unique h1' (sortU_lt ns) fun k => by rw [h2' k, sortU_mem]; simp
        subst em
        have hp3n : p3 ≠ p2 := fun z => by rw [z, upd_same] at hp3; cases hp3
        have hp3' : H1 p3 = none := by rw [upd_ne hp3n] at hp3; exact hp3
        have s1 : L2.Same H1 (upd (upd H1 p2 (SetO w p2 (fun j => decide (j ∈ ns)) c)) p3 (.lst ((sortU ns).map V.int))) := fun b o e => by
          rw [upd_ne (ne_of_none e hp3'), upd_ne (ne_of_none e hp2)]; exact e
        exact h1 φ1 _ (Grow.same s1) (so1.same s1) p3 _ (Grow.none g1 hp3' (so1.free hp3')) (so1.free hp3') upd_same (ints_dfall _)
      · exact h1.elim
    · exact h1.elim
  | ex x S1 =>
    rw [q] at h'
    exact h'
  | no => rw [q] at h'; exact h'
theorem i_sortSet {e : Expr} {l : IM} {p p2 pos pos2 : Pos} (h : IN X W e l) (hm : X.mg "sorted" = none) (hm2 : X.mg "set" = none) (hc : X.calm = true := by rfl) (hg : Gl X "sorted" := by rfl) (hg2 : Gl X "set" := by rfl)
    (he2 : starEach [e] X.env = (false, eval e X.env) :: starEach [] X.env := by rfl) (hpl2 : (backTo pos2 (starEach [] X.env)).any (·.1) = false := by rfl)
    (he : starEach [.Call (.Name "set" p2) [e] [] pos2] X.env = (false, eval (.Call (.Name "set" p2) [e] [] pos2) X.env) :: starEach [] X.env := by rfl) (hpl : (backTo pos (starEach [] X.env)).any (·.1) = false := by rfl) :
    IN X W (.Call (.Name "sorted" p) [.Call (.Name "set" p2) [e] [] pos2] [] pos) (mSortSet l) :=
  PE.imp (pe_callB (cr_sortedSet hc) hg hm boot_sorted (pa_cons (pe_callTy (cr_setL hc) hg2 hm2 boot_set (pa_cons h pa_nil he2) (by decide) (by decide) he2 hpl2) pa_nil he) (by decide) (by decide) he hpl) fun _ _ _ h => rd_sortSet h
end

/-! ### sorted(a list) -/
def isTup1 : D → Bool
  | .tuple (_ :: _) => true
  | _ => false
def noNT : D → Bool
  | .none => false
  | .tuple _ => false
  | _ => true
def okSort (ds : List D) : Bool := (ds.all fun d => ds.all fun e => PySem.W.alike d e) && ((ds.all isTup1 || ds.all noNT) && (ds.all (fun d => decide (d.depth ≤ 100)) && decide (ds.length ≤ sizeLine)))
/-- a stable sort that the kernel can run -/
def insLe {α : Type} (le : α → α → Bool) (a : α) : List α → List α
  | [] => [a]
  | b :: r => if le a b then a :: b :: r else b :: insLe le a r
def sortBy {α : Type} (le : α → α → Bool) : List α → List α
  | [] => []
  | a :: l => insLe le a (sortBy le l)
theorem insLe_at {α : Type} {le : α → α → Bool} {a : α} : ∀ {l1 l2 : List α}, (∀ b ∈ l1, le a b = false) → (∀ b ∈ l2, le a b = true) → insLe le a (l1 ++ l2) = l1 ++ a :: l2
  | [], [], _, _ => rfl
  | [], c :: l2, _, h2 => by
    show (if le a c then _ else _) = _
    rw [if_pos (h2 c List.mem_cons_self)]; rfl
  | b :: l1, l2, h1, h2 => by
    show (if le a b then _ else _) = _
    rw [h1 b List.mem_cons_self, if_neg Bool.false_ne_true]
    show b :: insLe le a (l1 ++ l2) = _
    rw [insLe_at (fun b' hb => h1 b' (List.mem_cons_of_mem _ hb)) h2]; rfl
theorem sortBy_eq {α : Type} {le : α → α → Bool} (tr : ∀ a b c, le a b = true → le b c = true → le a c = true) (to : ∀ a b, (le a b || le b a) = true) : ∀ l : List α, sortBy le l = l.mergeSort le
  | [] => by simp [sortBy]
  | a :: l => by
    obtain ⟨l1, l2, e1, e2, h⟩ := List.mergeSort_cons (le := le) tr to a l
    have pw := List.pairwise_mergeSort (le := le) tr to (a :: l)
    rw [e1] at pw
    rw [sortBy, sortBy_eq tr to l, e1, e2]
    refine insLe_at (fun b hb => by simpa using h b hb) fun b hb => ?_
    have := (List.pairwise_append.mp pw).2.1
    exact (List.pairwise_cons.mp this).1 b hb
def sortD (ds : List D) : List D := sortBy (PySem.W.dataLe false id) ds
theorem sortD_eq (ds : List D) : sortD ds = ds.mergeSort (PySem.W.dataLe false id) := sortBy_eq (PySem.W.sortLe_total _ false _).trans (fun a b => Bool.or_eq_true_iff.mpr ((PySem.W.sortLe_total _ false _).total a b)) ds
def sortedD : List D → Option (List D)
  | [.list xs] => if okSort xs then some (sortD xs) else none
  | _ => none
theorem okSort_all {ds : List D} (h : okSort ds = true) : PySem.W.AllAlike ds ∧ PySem.W.Sortable ds ∧ (∀ d ∈ ds, d.depth ≤ 100) ∧ ds.length ≤ sizeLine := by
  unfold okSort at h
  simp only [Bool.and_eq_true, Bool.or_eq_true, List.all_eq_true, decide_eq_true_eq] at h
  obtain ⟨h1, h2, h3, h4⟩ := h
  refine ⟨fun d hd e he => h1 d hd e he, ?_, h3, h4⟩
  rcases h2 with h2 | h2
  · refine .inl fun d hd => ?_
    have := h2 d hd
    unfold isTup1 at this
    split at this
    · exact ⟨_, _, rfl⟩
    · cases this
  · refine .inr fun d hd => ?_
    have := h2 d hd
    unfold noNT at this
    split at this
    · cases this
    · cases this
    · rename_i n1 n2
      exact ⟨n1, n2⟩
/-- a value of ours that is d -/
def IsD' (K : PySem.W.Frag) (H : Hp) (u : Value) (d : D) : Prop := ∃ v, RelV v u ∧ Df K H v d
theorem each_of {K : PySem.W.Frag} {H : Hp} : ∀ {vs : List V} {us : List Value} {ds : List D}, Vals vs us → DfAll K H vs ds → PySem.W.EachIs (IsD' K H) us ds
  | _, _, _, .nil, .nil => .nil
  | _, _, _, .cons r rs, .cons h t => .cons ⟨_, r, h⟩ (each_of rs t)
theorem of_each {K : PySem.W.Frag} {H : Hp} : ∀ {us : List Value} {ds : List D}, PySem.W.EachIs (IsD' K H) us ds → ∃ vs, Vals vs us ∧ DfAll K H vs ds
  | _, _, .nil => ⟨[], .nil, .nil⟩
  | _, _, .cons h t => by
    obtain ⟨v, r, d⟩ := h
    obtain ⟨vs, rs, ds⟩ := of_each t
    exact ⟨v :: vs, .cons r rs, .cons d ds⟩
section
variable {X : Cx} {W : WX}
theorem each_reads {pins : List (Addr × Obj)} {σ : L2.St} {H : Hp} {s : Shared} (I : Inv X pins σ H s) {us : List Value} {ds : List D} (h : PySem.W.EachIs (IsD' X.K H) us ds) : PySem.W.EachIs (fun u d => ∃ as, Reads s.heap u (id d) as) us ds :=
  h.mono fun u d ⟨v, r, hd⟩ => Dn.reads I (.of hd) r
theorem c_sorted (hu : X.A.units + 128 < cLine) : CallR X (.builtin "sorted") (cbRdL X.K sortedD) := by
  intro pins s σ H xs us Q I r h
  obtain ⟨ds, zs, h1, e, q⟩ := h
  unfold sortedD at e
  split at e
  · rename_i ys
    split at e
    · rename_i ok
      cases e
      obtain ⟨o1, o2, o3, o4⟩ := okSort_all ok
      obtain ⟨v, rfl, dn⟩ := dn1 h1
      obtain ⟨a, vs, rfl, hs, t⟩ := dn.list_at
      obtain ⟨its, rv, p, _⟩ := I.list hs
      have p : s.heap.IsList a its.toArray := p.isList
      rw [Vals.ref1 r]
      have ea := each_of rv t
      rw [sortD_eq] at q
      refine PySem.W.sorted_data (enc := id) (R := IsD' X.K H) p ea (each_reads I ea) (by rw [List.map_id]; exact o1) (by rw [List.map_id]; exact o2) o4 (fun b hb => by have := o3 b hb; show _ + b.depth < _; omega) fun out hl eo => ?_
      obtain ⟨ws, rw2, dw⟩ := of_each eo
      obtain ⟨c, hc⟩ := PyProof.Rows.sortedAll_at s.heap its out.toArray
      have hf : H (s.heap.objs.size + 1) = none := I.hok.fresh (Nat.le_succ _)
      have s1 : L2.Same H (upd H (s.heap.objs.size + 1) (.lst ws)) := fun b o e => by rw [upd_ne (ne_of_none e hf)]; exact e
      refine ⟨.ref (s.heap.objs.size + 1), _, I.laid (a := s.heap.objs.size + 1) (o := .lst ws) (t' := s.toks) (fun b u e => PyProof.Rows.sortedAll_old e) (Nat.le_succ _) ⟨?_, out, c, rw2, hc⟩, rfl, q _ ws _ s1 hf upd_same (DfAll.mono (Same.stab s1) dw)⟩
      rw [dw.length]
      show (List.mergeSort ys _).length ≤ _
      rw [List.length_mergeSort]; exact o4
    · cases e
  · cases e
end
end Pi

set_option Elab.async false
set_option linter.all false
set_option maxRecDepth 100000
/-! Pi13: sorted(d.items()) of a live dict. -/
namespace Pi
open PySem PySem.Spec PyProof.Rows L2 L2.DX

def pairsR : List (D × R) → Option (List D)
  | [] => some []
  | (k, .d v) :: t => match pairsR t with
    | some r => some (.tuple [k, v] :: r)
    | none => none
  | (_, .ref _) :: _ => none
mutual
/-- no list in it -/
def noL : D → Bool
  | .list _ => false
  | .dict _ => false
  | .tuple xs => noLs xs
  | _ => true
def noLs : List D → Bool
  | [] => true
  | x :: xs => noL x && noLs xs
end
mutual
theorem reads_noL {h : Heap} : ∀ {d : D} {u : Value} {as : List Addr}, noL d = true → Reads h u d as → as = []
  | .none, _, _, _, r => by cases r; rfl
  | .bool _, _, _, _, r => by cases r; rfl
  | .int _, _, _, _, r => by cases r; rfl
  | .str _, _, _, _, r => by cases r; rfl
  | .list _, _, _, n, _ => by cases n
  | .dict _, _, _, n, _ => by cases n
  | .tuple xs, _, _, n, r => by
    cases r with
    | tuple h1 h2 h3 h4 => exact reads_noLs (by simpa [noL] using n) h4
theorem reads_noLs {h : Heap} : ∀ {ds : List D} {us : List Value} {as : List Addr}, noLs ds = true → ReadsAll h us ds as → as = []
  | [], _, _, _, r => by cases r; rfl
  | d :: ds, _, _, n, r => by
    unfold noLs at n
    simp only [Bool.and_eq_true] at n
    cases r with
    | cons h1 h2 => rw [reads_noL n.1 h1, reads_noLs n.2 h2]; rfl
end
def itemsD (kvs : List (D × R)) : Option (List D) := if kvs.length < 1000 then match pairsR kvs with
  | some ps => if okSort ps && noLs ps then some (sortD ps) else none
  | none => none
  else none
/-- sorted(d.items()) -/
def mSortItems (d : EM) : IM := fun ρ S => (d ρ S).bind fun r S1 => match r with
  | .ref n => match S1[n]? with
    | some (.dic kvs) => Res.opt (itemsD kvs) S1
    | _ => .no
  | .d _ => .no
section
variable {X : Cx} {W : WX}
def rItemsK : V → List V → Hp → VK → Prop := fun x xs H Q => ∃ (a : Addr) (kv : List (L2.Key × V)), x = .ref a ∧ xs = [] ∧ H a = some (.dK kv) ∧ ∀ p, H p = none → Q (.ref p) (upd H p (itemsO p a))
theorem mt_itemsK : MtR X "dict.items" rItemsK := by
  intro pins s σ H x xs v us Q I rx rxs h
  obtain ⟨a, kv, rfl, rfl, ha, q⟩ := h
  cases rx
  cases rxs
  obtain ⟨z, hd, vs, rel, o, es, ep, ho, hx, hdat, _⟩ := dk_of I.hok ha
  refine DT.callItems (es := es) (ep := ep) hd ⟨o, ho, hx, hdat⟩ ⟨.ref s.heap.objs.size, upd H s.heap.objs.size (itemsO s.heap.objs.size a), ?_, rfl, q _ (I.hok.fresh (Nat.le_refl _))⟩
  exact I.laid (t' := s.toks) (fun b u e => Heap.get?_push_of_some _ e) (Nat.le_refl _) (itemsO_ok (Heap.get?_push_size _ rfl))
theorem pairs_at {P : Program} {w : World} {κ : Type} [DecidableEq κ] {knd : KeyKind P w κ} : ∀ {es : List DictEntry} {kvs : List (κ × Value)}, Pairs knd es kvs → ∀ (j : Nat) (e : DictEntry), es[j]? = some e → ∃ q, kvs[j]? = some q ∧ knd.is q.1 e.key = true ∧ e.val = q.2
  | _, _, .nil, j, e, h => by simp at h
  | _, _, .cons h1 h2 t, 0, e, h => by simp at h; subst h; exact ⟨_, rfl, h1, h2⟩
  | _, _, .cons h1 h2 t, j + 1, e, h => by
    obtain ⟨q, e1, e2⟩ := pairs_at t j e (by simpa using h)
    exact ⟨q, by simpa using e1, e2⟩
theorem kv_at {κ : Type} : ∀ {kv : List (κ × V)} {vs : List (κ × Value)}, KV kv vs → ∀ (j : Nat) (q : κ × Value), vs[j]? = some q → ∃ p, kv[j]? = some p ∧ p.1 = q.1 ∧ RelV p.2 q.2
  | _, _, .nil, j, q, h => by simp at h
  | _, _, .cons h1 t, 0, q, h => by simp at h; subst h; exact ⟨_, rfl, h1⟩
  | _, _, .cons h1 t, j + 1, q, h => by
    obtain ⟨p, e1, e2⟩ := kv_at t j q (by simpa using h)
    exact ⟨p, by simpa using e1, e2⟩
theorem _root_.L2.Inv.lays {X : Cx} {pins : List (Addr × Obj)} {σ : L2.St} {H H' : Hp} {s : Shared} {h' : Heap} {tk : Nat} (I : Inv X pins σ H s) (hk : ∀ b o, s.heap.get? b = some o → h'.get? b = some o) (kp : ∀ b u, H b = some u → H' b = some u)
    (new : ∀ b u, H' b = some u → H b = some u ∨ (s.heap.get? b = none ∧ ObjOk X.prog X.w H' h' b u)) : Inv X pins σ H' { s with heap := h', toks := tk } := by
  refine I.call' (ch := []) rfl ⟨fun b o q _ _ _ => hk b o q, fun b o q _ _ _ => ⟨o.slots, hk b o q⟩, fun b o q n _ => ?_, fun b o q _ => ⟨o, hk b o q⟩, fun b xs q => kp b _ q, fun b o u q => kp b _ q, fun b ps q => ⟨#[], by rw [kp b _ q]; simp⟩⟩ (fun b u q => ?_) I.bare fun b z => by simp at z
  · cases e : H' b with
    | none => rfl
    | some u =>
      rcases new b u e with z | z
      · rw [n] at z; cases z
      · rw [q] at z; cases z.1
  · rcases new b u q with z | z
    · exact (I.hok b u z).stay (fun d v _ y => hk d v y) (fun d y => kp d _ y) fun d xs y => kp d _ y
    · exact z.2
def IsPr (K : PySem.W.Frag) (H : Hp) (as : List Addr) (u : Value) (d : D) : Prop := ∃ b, u = .ref b ∧ b ∈ as ∧ Df K H (.ref b) d
theorem pairs_each {K : PySem.W.Frag} {φ : List Addr} {H H1 : Hp} (st : Stab H H1) (all : List Addr) : ∀ {kv : List (L2.Key × V)} {kvs : List (D × R)} {ps : List D} {as : List Addr}, RelKv K φ H kv kvs → pairsR kvs = some ps → (∀ b ∈ as, b ∈ all) →
    Paired (fun (t : Addr) (p : L2.Key × V) => H1 t = some (.tup [kV p.1, p.2])) as kv → PySem.W.EachIs (IsPr K H1 all) (as.map Value.ref) ps
  | _, _, _, [], .nil, e, _, _ => by cases e; exact .nil
  | _, _, _, _ :: _, .nil, e, _, g => by cases g
  | _, _, _, [], .cons _ _, e, _, g => by cases g
  | _, _, ps, b :: as, .cons (a := p) (b := q) h t, e, hm, g => by
    obtain ⟨qk, qv⟩ := q
    cases qv with
    | ref i => cases e
    | d y =>
      unfold pairsR at e
      split at e
      · rename_i r er
        cases e
        cases g with
        | cons g1 g2 =>
        refine .cons ⟨b, rfl, hm b List.mem_cons_self, .tup (.inl (.inl g1)) (.cons ?_ (.cons (Df.mono st h.2) .nil))⟩ (pairs_each st all t er (fun b' hb => hm b' (List.mem_cons_of_mem _ hb)) g2)
        have e3 : keyD p.1 = qk := h.1
        rw [← e3]
        cases p.1
        · exact .int _
        · exact .str _
      · cases e
theorem refs_of {K : PySem.W.Frag} {H : Hp} {as : List Addr} : ∀ {us : List Value} {ds : List D}, PySem.W.EachIs (IsPr K H as) us ds → ∃ bs : List Addr, us = bs.map Value.ref ∧ DfAll K H (bs.map V.ref) ds
  | _, _, .nil => ⟨[], rfl, .nil⟩
  | _, _, .cons h t => by
    obtain ⟨b, rfl, _, d⟩ := h
    obtain ⟨bs, rfl, ds⟩ := refs_of t
    exact ⟨b :: bs, rfl, .cons d ds⟩
theorem noLs_mem : ∀ {ds : List D}, noLs ds = true → ∀ d ∈ ds, noL d = true
  | [], _, d, h => by cases h
  | x :: xs, n, d, h => by
    unfold noLs at n
    simp only [Bool.and_eq_true] at n
    rcases List.mem_cons.mp h with rfl | h
    · exact n.1
    · exact noLs_mem n.2 d h
theorem each_mem' {α β : Type} {Q : α → β → Prop} : ∀ {us : List α} {ds : List β}, PySem.W.EachIs Q us ds → ∀ {Q' : α → β → Prop}, (∀ u, ∀ d ∈ ds, Q u d → Q' u d) → PySem.W.EachIs Q' us ds
  | _, _, .nil, _, _ => .nil
  | _, _, .cons h t, _, f => .cons (f _ _ List.mem_cons_self h) (each_mem' t fun u d hd => f u d (List.mem_cons_of_mem _ hd))
def rSortIt (K : PySem.W.Frag) : List V → Hp → VK → Prop := fun vs H Q => ∃ (p a : Addr) (kv : List (L2.Key × V)) (φ : List Addr) (kvs : List (D × R)) (zs : List D), vs = [.ref p] ∧ H p = some (itemsO p a) ∧ H a = some (.dK kv) ∧ RelKv K φ H kv kvs ∧ itemsD kvs = some zs ∧
  ∀ q ws H', L2.Same H H' → H q = none → H' q = some (.lst ws) → DfAll K H' ws zs → Q (.ref q) H'
theorem cr_sortIt (hc : X.calm = true) (hu : X.A.units + 128 < cLine) : CallR X (.builtin "sorted") (rSortIt X.K) := by
  intro pins s σ H xs us Q I r h
  obtain ⟨p, a, kv, φ, kvs, zs, rfl, hp, ha, rk, ei, q⟩ := h
  rw [Vals.ref1 r]
  unfold itemsD at ei
  split at ei
  · rename_i hlen
    split at ei
    · rename_i ps eps
      split at ei
      · rename_i ok
        cases ei
        simp only [Bool.and_eq_true] at ok
        obtain ⟨o1, o2, o3, o4⟩ := okSort_all ok.1
        have view : s.heap.IsItemsView p a := (show ObjOk X.prog X.w H s.heap p (itemsO p a) from I.hok p _ hp).1
        obtain ⟨z, hd, vs, rel, o, es, ep, ho, hx, hdat, _, hpr, _⟩ := dk_of I.hok ha
        have l1 : kv.length = vs.length := Paired.length rel
        have l2 : es.size = vs.length := by have := hpr.length; simpa using this
        have l3 := kv_len rk
        refine DT.sortedI (es := es) (ep := ep) (I.ok.hd hc) view ⟨o, ho, hx, hdat⟩ (by rw [sizeLine_eq]; omega) fun h' tk as hk hlt hl hG => ?_
        have nd : as.Nodup := List.Pairwise.imp (fun h => Nat.ne_of_lt h) hG.rise
        have lak : as.length = kv.length := by omega
        have hob : (h'.push { cls := .type "list", data := .seq (as.map Value.ref).toArray }).get? h'.objs.size = some (seqObj "list" (as.map Value.ref).toArray 0) := Heap.get?_push_size _ rfl
        have kb : ∀ b o, h'.get? b = some o → (h'.push { cls := .type "list", data := .seq (as.map Value.ref).toArray }).get? b = some o := fun b o e => Heap.get?_push_of_some _ e
        generalize hh2 : h'.push { cls := .type "list", data := .seq (as.map Value.ref).toArray } = h2 at hob kb ⊢
        have low : ∀ b ∈ as, s.heap.objs.size < b := hG.above
        have newA : ∀ b ∈ as, H b = none := fun b hb => I.hok.fresh (Nat.le_of_lt (low b hb))
        have sNone : ∀ b, s.heap.objs.size ≤ b → s.heap.get? b = none := fun b hb => by
          cases e : s.heap.get? b with
          | none => rfl
          | some o => exact absurd (Heap.lt_size e) (Nat.not_lt.mpr hb)
        have atP := LiI.putT_at as kv H lak nd
        generalize hH1 : LiI.putT H as kv = H1 at atP
        have off : ∀ b, b ∉ as → H1 b = H b := fun b hb => by rw [← hH1]; exact LiI.putT_off as kv H hb
        have kp : ∀ b u, H b = some u → H1 b = some u := fun b u e => by rw [off b (fun z => by rw [newA b z] at e; cases e)]; exact e
        have tupOk : ∀ (hh : Heap), (∀ b o, h'.get? b = some o → hh.get? b = some o) → ∀ b ∈ as, ∀ u, H1 b = some u → ∀ H2 : Hp, ObjOk X.prog X.w H2 hh b u := fun hh khh b hb u e H2 => by
          obtain ⟨j, pk, e1, e2, e3⟩ := LiI.paired_ix atP hb
          rw [e3] at e; cases e
          obtain ⟨en, f1, f2⟩ := hG.pairs j b e1
          obtain ⟨qv, g1, g2, g3⟩ := pairs_at hpr j en (by simpa using f1)
          obtain ⟨pk', k1, k2, k3⟩ := kv_at rel j qv g1
          rw [e2] at k1; cases k1
          have rk1 : RelV (kV pk.1) en.key := by
            rw [k2]; exact relV_key (show keyIs qv.1 en.key = true from g2)
          exact ⟨by show 2 ≤ sizeLine; decide, [en.key, en.val], .cons rk1 (.cons (by rw [g3]; exact k3) .nil), ⟨_, khh b _ f2, rfl, _, rfl⟩⟩
        have I1 : Inv X pins σ H1 { s with heap := h2, toks := tk } := I.lays (fun b o e => kb b o (hk b o e)) kp fun b u e => by
          by_cases hb : b ∈ as
          · exact .inr ⟨sNone b (Nat.le_of_lt (low b hb)), tupOk h2 kb b hb u e H1⟩
          · rw [off b hb] at e; exact .inl e
        have ea : PySem.W.EachIs (IsPr X.K H1 as) (as.map Value.ref) ps := pairs_each (fun b o _ e => kp b o e) as rk eps (fun _ h => h) atP
        have nla : ∀ d ∈ ps, noL d = true := noLs_mem ok.2
        rw [sortD_eq] at q
        refine PySem.W.list_sort_data (enc := id) (R := IsPr X.K H1 as) (n := 0) (vs := as.map Value.ref) hob ea (each_mem' ea fun u d hd hu => ?_) (by rw [List.map_id]; exact o1) (by rw [List.map_id]; exact o2) o4 (fun b hb => by have := o3 b hb; show X.A.units + 1 + 1 + b.depth < _; omega) fun out hol eo => ?_
        · obtain ⟨b, rfl, hb, df⟩ := hu
          obtain ⟨as', rd⟩ := Dn.reads I1 (.of df) (show RelV (.ref b) (.ref b) from rfl)
          refine ⟨as', rd, ?_⟩
          rw [reads_noL (nla d hd) rd]
          simp
        · obtain ⟨bs, rfl, dw⟩ := refs_of eo
          obtain ⟨c, hc2⟩ := PyProof.Rows.sortedHeap_at (out := (bs.map Value.ref).toArray) hob
          have ks : ∀ b o, h'.get? b = some o → (PyProof.Rows.sortedHeap h2 h'.objs.size (as.map Value.ref) (bs.map Value.ref).toArray).get? b = some o := fun b o e => by
            have := Heap.lt_size e
            rw [PyProof.Rows.sortedHeap_old (Nat.ne_of_lt this) (Heap.lt_size (kb b o e))]
            exact kb b o e
          have nL : H1 h'.objs.size = none := by
            rw [off _ (fun z => Nat.lt_irrefl _ (hG.there z))]
            exact I.hok.fresh (Nat.le_of_lt hlt)
          have nH : H h'.objs.size = none := I.hok.fresh (Nat.le_of_lt hlt)
          have s1 : L2.Same H1 (upd H1 h'.objs.size (.lst (bs.map V.ref))) := fun b o e => by rw [upd_ne (ne_of_none e nL)]; exact e
          refine ⟨.ref h'.objs.size, upd H1 h'.objs.size (.lst (bs.map V.ref)), I.lays (fun b o e => ks b o (hk b o e)) (fun b u e => s1 b u (kp b u e)) fun b u e => ?_, rfl, q _ _ _ (fun b u e => s1 b u (kp b u e)) nH upd_same (DfAll.mono (Same.stab s1) dw)⟩
          by_cases hb : b = h'.objs.size
          · subst hb
            rw [upd_same] at e; cases e
            refine .inr ⟨sNone _ (Nat.le_of_lt hlt), ?_, bs.map Value.ref, c, LiI.vals_refs bs, hc2⟩
            have e1 := dw.length
            rw [e1]
            show (List.mergeSort ps _).length ≤ _
            rw [List.length_mergeSort]; exact o4
          · rw [upd_ne hb] at e
            by_cases hb2 : b ∈ as
            · exact .inr ⟨sNone b (Nat.le_of_lt (low b hb2)), tupOk _ ks b hb2 u e _⟩
            · rw [off b hb2] at e; exact .inl e
      · cases ei
    · cases ei
  · cases ei
theorem rd_sortIt {K : PySem.W.Frag} {mg : Str → Option Value} {m : EM} {σ : L2.St} {H : Hp} {Q : VK} (h : rdN K mg W (mSortItems m) σ H Q) :
    tCB (rSortIt K) (tCons (tBM0 K "dict" rItemsK (rdE K mg W m)) tNil) σ H Q := by
  obtain ⟨φ, ρ, S, eo, so, h⟩ := h
  refine ⟨φ, ρ, S, eo, so, ?_⟩
  refine (EndR.bind h).imp fun r φ1 S1 H1 _ g1 so1 h1 v r1 => ?_
  cases r with
  | d _ => exact h1.elim
  | ref n =>
    simp only at h1
    split at h1
    · rename_i kvs es
      unfold Res.opt at h1
      split at h1
      · rename_i zs ez
        obtain ⟨a, ha, rfl⟩ := r1
        obtain ⟨kv, e1, e2⟩ := so1.cell n a _ ha es
        refine ⟨.inr (.inr (.inl ⟨rfl, .inl ⟨kv, e1⟩⟩)), a, kv, rfl, rfl, e1, fun p hp => ?_⟩
        have s1 : L2.Same H1 (upd H1 p (itemsO p a)) := fun b o e => by rw [upd_ne (ne_of_none e hp)]; exact e
        refine ⟨p, a, kv, φ1, kvs, zs, rfl, upd_same, s1 _ _ e1, RelKv.mono (List.prefix_refl _) (Same.stab s1) e2, ez, fun q ws H' s2 nq eq dq => ?_⟩
        have s3 : L2.Same H1 H' := fun b o e => s2 b o (s1 b o e)
        have nq1 : H1 q = none := by
          by_cases hq : q = p
          · rw [hq]; exact hp
          · rw [upd_ne hq] at nq; exact nq
        exact h1 φ1 H' (Grow.same s3) (so1.same s3) q ws (Grow.none g1 nq1 (so1.free nq1)) (so1.free nq1) eq dq
      · exact h1.elim
    · exact h1.elim
theorem i_sortItems {o : Expr} {m : EM} {p apos cpos pos : Pos} (h : IE X W o m) (hm : X.mg "sorted" = none) (hu : X.A.units + 128 < cLine) (hc : X.calm = true := by rfl) (hg : Gl X "sorted" := by rfl)
    (hbase : attributeBase o "items" X.env (eval o X.env) = eval o X.env := by rfl) (hline : (apos.endLine == cpos.line) = true := by rfl)
    (he : starEach [.Call (.Attribute o "items" apos) [] [] cpos] X.env = (false, eval (.Call (.Attribute o "items" apos) [] [] cpos) X.env) :: starEach [] X.env := by rfl) (hpl : (backTo pos (starEach [] X.env)).any (·.1) = false := by rfl) :
    IN X W (.Call (.Name "sorted" p) [.Call (.Attribute o "items" apos) [] [] cpos] [] pos) (mSortItems m) :=
  PE.imp (pe_callB (cr_sortIt hc hu) hg hm boot_sorted (pa_cons (pe_bm0 PySem.F.plainAttrs_dict PySem.F.slot_dict_items PySem.F.type_dict_items mt_itemsK h hbase hline) pa_nil he) (by decide) (by decide) he hpl) fun _ _ _ h => rd_sortIt h
end
end Pi

set_option Elab.async false
set_option linter.all false
set_option maxRecDepth 100000
/-! Pi14: the ends: globals, raises, the law. -/
namespace Pi
open PySem PySem.Spec PyProof.Rows L2

def onlyL (g : D → D → Option D) (a b : D) : Option (List D) := match g a b with
  | some (.list zs) => some zs
  | _ => none
section
variable {X : Cx} {W : WX}
theorem o_addL : OpR X (binaryOp .Add) (opRdL X.K (onlyL addD)) := by
  intro pins s σ H x y v u Q I rx ry h
  obtain ⟨d1, d2, ws, h1, h2, e, q⟩ := h
  unfold onlyL addD at e
  split at e
  · rename_i zs eg
    cases e
    split at eg
    · cases eg
    · split at eg <;> cases eg
    · split at eg <;> cases eg
    · split at eg
      · rename_i hz
        cases eg
        obtain ⟨a, xs, rfl, s1, t1⟩ := h1.list_at
        obtain ⟨b, ys, rfl, s2, t2⟩ := h2.list_at
        cases rx; cases ry
        refine cat_any I s1 s2 (by rw [t1.length, t2.length]; exact hz) fun p hp => ?_
        obtain ⟨sm, d⟩ := new_lst hp (t1.append t2)
        exact q p _ _ sm hp upd_same d
      · cases eg
    · cases eg
  · cases e
theorem o_mulL : OpR X (binaryOp .Mult) (opRdL X.K (onlyL mulD)) := by
  intro pins s σ H x y v u Q I rx ry h
  obtain ⟨d1, d2, ws, h1, h2, e, q⟩ := h
  unfold onlyL mulD at e
  split at e
  · rename_i zs eg
    cases e
    split at eg
    · split at eg <;> cases eg
    · split at eg <;> cases eg
    · split at eg
      · rename_i ds k hz
        cases eg
        rw [Bool.and_eq_true, Bool.and_eq_true] at hz
        have k1 := of_decide_eq_true hz.1.1
        have k2 := of_decide_eq_true hz.1.2
        have k3 := of_decide_eq_true hz.2
        cases h2.int_eq
        obtain ⟨l, xs, rfl, hL, t1⟩ := h1.list_at
        cases rx
        obtain ⟨t, rfl⟩ := ry
        obtain ⟨its, r, ⟨⟨cls, dd, data, sl⟩, n, ho, hc, _, hd⟩, hs⟩ := I.list hL
        simp only at hc hd
        subst hc hd
        have hle : its.length = xs.length := r.length.symm
        have hle2 : xs.length = ds.length := t1.length
        have hm2 : its.length * k.toNat ≤ sizeLine := by rw [hle, hle2]; exact k3
        rw [sizeLine_eq] at hm2
        have hm3 : its.toArray.size * k.toNat ≤ 2 ^ 24 := by simpa using hm2
        refine wpAny_binaryOp_repeat_ref (T := "list") (U := "int") (by decide) ⟨_, ho, rfl⟩ (fun s' => typeIs_int s' k t) noFill_list_mul F.fills_int_mul F.slot_int_rmul repeat_list F.slot_int_index.lookup
          (call_meets F.slot_int_rmul (typeIs_int s k t) F.entry_int_rmul (F.args_int_rmul_2 _ _) (lm_int_rmul_list_any k t l its.toArray n dd sl)
            ⟨ho, rfl, ⟨_, ho, rfl⟩, call_meets F.slot_list_mul ⟨_, ho, rfl⟩ F.entry_list_mul (F.args_list_mul_2 _ _) (lm_list_mul_any l its.toArray n dd sl k t (by simp [Builtin.List.listFitsIndex]; omega) (by omega) (by simp [Builtin.List.listTooLong, sizeLine]; omega)) ⟨ho, ?_⟩⟩)
        rw [listMul_foldl_if]
        obtain ⟨sm, d⟩ := new_lst (K := X.K) I.fresh (rep_flat t1 k.toNat)
        exact ⟨.ref _, _, I.lnew (t' := s.toks) (r.rep k.toNat) (by rw [len_rep, hle2]; exact k3), rfl, q _ _ _ sm I.fresh upd_same d⟩
      · cases eg
    · cases eg
  · cases e
def negD : D → Option D
  | .int i => some (.int (-i))
  | _ => none
theorem i_negD {a : Expr} {ma : EM} {pos : Pos} (ha : IE X W a ma) : IE X W (.UnaryOp .USub a pos) (mOp1 negD ma) := by
  have e : mOp1 negD ma = mOp1 (fun d => match d with | .int i => some (.int (-i)) | _ => none) ma := by
    first
      | rfl
      | (congr 1; funext d; cases d <;> rfl)
  rw [e]
  exact i_neg ha
theorem hu_of {k : Nat} {A : Around} (r : Room k A) : A.units + 128 < cLine := by have := r.un; omega
theorem i_globI {x : Str} {i : Int} {pos : Pos} (h : ∃ t, X.mg x = some (.int i t)) (hg : Gl X x := by rfl) (hd : (x == ("__debug__" : Str)) = false := by decide) : IE X W (.Name x pos) (mD (.int i)) := by
  obtain ⟨t, h⟩ := h
  exact i_glob (v := .int i) h ⟨t, rfl⟩ (fun _ => .int i) hg hd
/-- an exception class of one's own over ValueError -/
def ExF (K : PySem.W.Frag) (mg : Str → Option Value) (x : String) : Prop := ∃ C, mg (Str.ofString x) = some (.ref C) ∧ PySem.W.excIn K C He.veBase "ValueError.__new__" = true ∧ PySem.W.keepIn K (.ref C) = true ∧ PySem.W.subIn K (.ref C) (.type "BaseException") = some true ∧ PySem.W.typeIn K (.ref C) = some (.type "type")
theorem is_raiseX {x : String} {m' : Str} {j : Nat} {p p2 pos pos2 : Pos} (f : ExF X.K X.mg x) (tk : Takes X W) (hg : Gl X (Str.ofString x) := by rfl) (hc : X.calm = true := by rfl) (hdb : (Str.ofString x == ("__debug__" : Str)) = false := by decide) :
    IS X W (.Raise (some (.Call (.Name (Str.ofString x) p) [.Constant (.str m') j p2] [] pos)) none pos2) (mRaise x) := by
  obtain ⟨C, h1, h2, h3, h4, h5⟩ := f
  exact is_raise tk PySem.F.excBase_ValueError h2 h1 h3 (raises_own h4 h5) hg hc hdb
theorem iss_no {b : List Stmt} : ISs X W b mNoS := ⟨fun pins s σ H D I h => by obtain ⟨φ, ρ, S, eo, so, h⟩ := h; exact h.elim⟩
end
theorem cx_no {P : Program} {w : World} {H : Hp} {s : Shared} {e : Value} {s' : Shared} (h : L2.CX P w [] H s (fun _ _ _ => False) e s') : False := by
  obtain ⟨a, B, H', cls, d, _, _, _, _, _, _, _, q⟩ := h
  exact q
theorem walk_ofW {l : PySem.W.OpenLaw} {n k : Nat} {q : Program} {loose : List Str} {XP : (Str → Option Value) → Heap → Prop} {YP : World → Heap → Prop} {d : DefRec} {x : Str} (hn : l.most = some n) (hn2 : n ≤ sizeLine) (hdf : d.params.defaults = []) (hr : Room k callerA)
    (F : ∀ (w : World) (mg : Str → Option Value) (fa : Addr) (h : Heap), YP w h → h.Ns mainGlobals mg → mg d.name = some (.ref fa) → ∃ (K : PySem.W.Frag) (fd : FuncData) (sp : Sp), K.In h ∧ (∀ (s : Shared) (u : Value), BindsTo s fd ⟨[u], []⟩ [(x, u)]) ∧
      (∀ (H : Hp) (a : Addr) (ns : List Int), ns.length ≤ n → Only H → SqL K H a (ns.map V.int) → sp [.ref a] H (fun v _ => v = .bl true) fun _ _ _ => False) ∧ ∀ base : Heap, K.In base → base.Ns mainGlobals mg → FnOk l.prog w K mg base (L2.CX l.prog w) k fa fd [x] sp) :
    PySem.W.WalkO q loose XP YP l.row.toRowW d [] (fun f vs => PySem.call f vs) := by
  refine (Att.attach_call hn hdf fun w s₀ s₁ mg mb fa o pm cd doc a vs ns G Y ho hd hcd hmg hobj hints hlen hg => ?_)
  obtain ⟨K, fd, sp, h1, h2, h3, h4⟩ := F w mg fa _ Y G.T.g hmg
  exact law_call h1 G.T.g G.T.b G.T.builtins G.T.nolimit hg hobj hints (Nat.le_trans hlen hn2) hr h4 h2 (fun H hO hS => h3 H a ns hlen hO hS) fun _ _ _ => cx_no
/-- the law's promise from the mirror's answer -/
theorem sp_law {K : PySem.W.Frag} {mg : Str → Option Value} {F : Fn} {H : Hp} {a : Addr} {ns : List Int} (hO : Only H) (hS : SqL K H a (ns.map V.int)) {S : Store} (h : F [.d (.list (ns.map .int))] [] = .ok (.d (.bool true)) S) : spF K mg 1 F [.ref a] H (fun v _ => v = .bl true) fun _ _ _ => False := by
  have fz : FzL K H a (ns.map V.int) := by
    rcases hS with (h | h) | h
    · rcases hO a with q | ⟨o, xs, q⟩
      · rw [h] at q; cases q
      · rw [h] at q; cases q
    · exact .inl h
    · exact .inr h
  refine ⟨[], [.d (.list (ns.map .int))], [], rfl, StOk.nil, .cons (.lst fz (ints_dfall ns)) .nil, ?_⟩
  rw [h]
  exact fun φ' v H' g so r => by cases r; rfl
end Pi

set_option Elab.async false
set_option linter.all false
set_option maxRecDepth 100000
/-! PiEv: mirrors run by simp. -/
namespace Pi
open PySem

def optB {α β : Type} (o : Option α) (f : α → Res β) : Res β := match o with
  | some x => f x
  | none => .no
@[simp] theorem optB_some {α β : Type} (x : α) (f : α → Res β) : optB (some x) f = f x := Eq.trans rfl rfl
@[simp] theorem optB_none {α β : Type} (f : α → Res β) : optB (none : Option α) f = .no := Eq.trans rfl rfl
def optR (o : Option D) (S : Store) : Res R := match o with
  | some z => .ok (.d z) S
  | none => .no
@[simp] theorem optR_some (z : D) (S : Store) : optR (some z) S = .ok (.d z) S := Eq.trans rfl rfl
@[simp] theorem optR_none (S : Store) : optR none S = .no := Eq.trans rfl rfl
def getV (o : Option (Option R)) (S : Store) : Res R := match o with
  | some (some r) => .ok r S
  | _ => .no
@[simp] theorem getV_some (r : R) (S : Store) : getV (some (some r)) S = .ok r S := Eq.trans rfl rfl
def boolR : R → Store → Res Bool
  | .d (.bool k), S => .ok k S
  | _, _ => .no
@[simp] theorem boolR_bool (k : Bool) (S : Store) : boolR (.d (.bool k)) S = .ok k S := Eq.trans rfl rfl
def chR {α : Type} (o : Option D) (t f : Unit → Res α) : Res α := match o with
  | some (.bool true) => t ()
  | some (.bool false) => f ()
  | _ => .no
@[simp] theorem chR_bool {α : Type} (k : Bool) (t f : Unit → Res α) : chR (some (.bool k)) t f = if k = true then t () else f () := by cases k <;> rfl
@[simp] theorem rd_d (S : Store) (x : D) : rd S (.d x) = some x := Eq.trans rfl rfl
theorem rd_ref {S : Store} {i : Nat} {xs : List D} (h : S[i]? = some (.lst xs)) : rd S (.ref i) = some (.list xs) := by unfold rd; simp [h]
@[simp] theorem rdR_d (x : D) : rdR (.d x) = some x := Eq.trans rfl rfl
@[simp] theorem rdR_ref (i : Nat) : rdR (.ref i) = none := Eq.trans rfl rfl
section
variable (ρ : Env) (S : Store) (a b c : EM) (ta tb : TM) (g g' : D → D → Option D)
@[simp] theorem mVar_ev (i : Nat) : mVar i ρ S = getV (ρ[i]?) S := Eq.trans rfl rfl
@[simp] theorem mD_ev (x : D) : mD x ρ S = .ok (.d x) S := Eq.trans rfl rfl
@[simp] theorem mOp1_ev (f : D → Option D) : mOp1 f a ρ S = (a ρ S).bind fun x S1 => optB (rd S1 x) fun x' => optR (f x') S1 := by
  unfold mOp1
  congr 1; funext x S1
  cases rd S1 x with
  | none => rfl
  | some x' =>
    simp only [optB_some]
    cases f x' <;> rfl
@[simp] theorem mOp2_ev : mOp2 g a b ρ S = (a ρ S).bind fun x S1 => (b ρ S1).bind fun y S2 => optB (rd S2 x) fun x' => optB (rd S2 y) fun y' => optR (g x' y') S2 := by
  unfold mOp2
  congr 1; funext x S1
  congr 1; funext y S2
  cases rd S2 x <;> cases rd S2 y <;> rfl
@[simp] theorem mChain_ev : mChain g g' a b c ρ S = (a ρ S).bind fun x S1 => (b ρ S1).bind fun y S2 => optB (rd S2 x) fun x' => optB (rd S2 y) fun y' => chR (g x' y')
    (fun _ => (c ρ S2).bind fun z S3 => optB (rd S3 y) fun y'' => optB (rd S3 z) fun z' => optR (g' y'' z') S3) (fun _ => .ok (.d (.bool false)) S2) := by
  unfold mChain
  congr 1; funext x S1
  congr 1; funext y S2
  cases rd S2 x with
  | none => rfl
  | some x' =>
    cases rd S2 y with
    | none => rfl
    | some y' =>
      simp only [optB_some]
      cases g x' y' with
      | none => rfl
      | some k =>
        cases k with
        | bool k =>
          cases k with
          | false => rfl
          | true =>
            show (c ρ S2).bind _ = (c ρ S2).bind _
            congr 1; funext z S3
            cases rd S3 y <;> cases rd S3 z <;> rfl
        | _ => rfl
@[simp] theorem mTruth_ev : mTruth a ρ S = (a ρ S).bind fun x S1 => optB (rd S1 x) fun x' => optB (truD x') fun k => .ok k S1 := by
  unfold mTruth
  congr 1; funext x S1
  cases rd S1 x with
  | none => rfl
  | some x' =>
    simp only [optB_some]
    show Res.opt (truD x') S1 = _
    cases truD x' <;> rfl
@[simp] theorem mB_ev : mB a ρ S = (a ρ S).bind boolR := by
  unfold mB
  congr 1; funext r S1
  cases r with
  | ref _ => rfl
  | d x => cases x <;> rfl
@[simp] theorem mNotT_ev : mNotT ta ρ S = (ta ρ S).bind fun k S1 => .ok (!k) S1 := Eq.trans rfl rfl
@[simp] theorem mAndT_ev : mAndT ta tb ρ S = (ta ρ S).bind fun k S1 => if k = true then tb ρ S1 else .ok false S1 := by
  unfold mAndT
  congr 1; funext k S1; cases k <;> rfl
@[simp] theorem mOrT_ev : mOrT ta tb ρ S = (ta ρ S).bind fun k S1 => if k = true then .ok true S1 else tb ρ S1 := by
  unfold mOrT
  congr 1; funext k S1; cases k <;> rfl
@[simp] theorem mIfE_ev : mIfE ta a b ρ S = (ta ρ S).bind fun k S1 => if k = true then a ρ S1 else b ρ S1 := by
  unfold mIfE
  congr 1; funext k S1; cases k <;> rfl
@[simp] theorem mAndV_ev : mAndV a b ρ S = (a ρ S).bind fun x S1 => optB (rd S1 x) fun x' => optB (truD x') fun k => if k = true then b ρ S1 else .ok x S1 := by
  unfold mAndV
  congr 1; funext x S1
  cases rd S1 x with
  | none => rfl
  | some x' =>
    simp only [optB_some]
    cases truD x' with
    | none => rfl
    | some k => cases k <;> rfl
@[simp] theorem mOrV_ev : mOrV a b ρ S = (a ρ S).bind fun x S1 => optB (rd S1 x) fun x' => optB (truD x') fun k => if k = true then .ok x S1 else b ρ S1 := by
  unfold mOrV
  congr 1; funext x S1
  cases rd S1 x with
  | none => rfl
  | some x' =>
    simp only [optB_some]
    cases truD x' with
    | none => rfl
    | some k => cases k <;> rfl
@[simp] theorem mNotV_ev : mNotV a ρ S = (a ρ S).bind fun x S1 => optB (rd S1 x) fun x' => optB (truD x') fun k => .ok (.d (.bool (!k))) S1 := by
  unfold mNotV
  congr 1; funext x S1
  cases rd S1 x with
  | none => rfl
  | some x' =>
    simp only [optB_some]
    cases truD x' with
    | none => rfl
    | some k => rfl
@[simp] theorem mNil_ev : mNil ρ S = .ok [] S := Eq.trans rfl rfl
@[simp] theorem mCons_ev (r : AM) : mCons a r ρ S = (a ρ S).bind fun x S1 => (r ρ S1).bind fun xs S2 => .ok (x :: xs) S2 := Eq.trans rfl rfl
@[simp] theorem mYes_ev : mYes ρ S = .ok true S := Eq.trans rfl rfl
variable (am : AM) (l : IM)
@[simp] theorem mTup_ev : mTup am ρ S = (am ρ S).bind fun xs S1 => optB (allD xs) fun ds => if ds.length ≤ sizeLine then .ok (.d (.tuple ds)) S1 else .no := by
  unfold mTup
  congr 1; funext xs S1; cases allD xs <;> rfl
@[simp] theorem mCB_ev (f : List D → Option D) : mCB f am ρ S = (am ρ S).bind fun xs S1 => optB (rdAll S1 xs) fun ds => optR (f ds) S1 := by
  unfold mCB
  congr 1; funext xs S1
  cases rdAll S1 xs <;> rfl
@[simp] theorem mDisp_ev : mDisp am ρ S = (am ρ S).bind fun xs S1 => optB (allD xs) fun ds => if ds.length ≤ sizeLine then .ok ds S1 else .no := by
  unfold mDisp
  congr 1; funext xs S1; cases allD xs <;> rfl
@[simp] theorem mCBL_ev (f : List D → Option (List D)) : mCBL f am ρ S = (am ρ S).bind fun xs S1 => optB (rdAll S1 xs) fun ds => optB (f ds) fun zs => .ok zs S1 := by
  unfold mCBL
  congr 1; funext xs S1
  cases rdAll S1 xs with
  | none => rfl
  | some ds =>
    simp only [optB_some]
    show Res.opt (f ds) S1 = _
    cases f ds <;> rfl
@[simp] theorem mOp2L_ev (f : D → D → Option (List D)) : mOp2L f a b ρ S = (a ρ S).bind fun x S1 => (b ρ S1).bind fun y S2 => optB (rd S2 x) fun x' => optB (rd S2 y) fun y' => optB (f x' y') fun zs => .ok zs S2 := by
  unfold mOp2L
  congr 1; funext x S1
  congr 1; funext y S2
  cases rd S2 x with
  | none => rfl
  | some x' =>
    cases rd S2 y with
    | none => rfl
    | some y' =>
      simp only [optB_some]
      show Res.opt (f x' y') S2 = _
      cases f x' y' <;> rfl
@[simp] theorem mFrz_ev : mFrz l ρ S = (l ρ S).bind fun ds S1 => .ok (.d (.list ds)) S1 := Eq.trans rfl rfl
@[simp] theorem mNew_ev : mNew l ρ S = (l ρ S).bind fun ds S1 => .ok (.ref S1.length) (S1 ++ [.lst ds]) := Eq.trans rfl rfl
@[simp] theorem mItS_ev : mItS a ρ S = (a ρ S).bind fun x S1 => optB (rdR x) fun x' => optB (itD x') fun zs => .ok zs S1 := by
  unfold mItS
  congr 1; funext x S1
  cases rdR x with
  | none => rfl
  | some x' =>
    simp only [optB_some]
    show Res.opt (itD x') S1 = _
    cases itD x' <;> rfl
@[simp] theorem mItA_ev (f : List D → Option (List D)) : mItA f am ρ S = (am ρ S).bind fun xs S1 => optB (allD xs) fun ds => optB (f ds) fun zs => .ok zs S1 := by
  unfold mItA
  congr 1; funext xs S1
  cases allD xs with
  | none => rfl
  | some ds =>
    simp only [optB_some]
    show Res.opt (f ds) S1 = _
    cases f ds <;> rfl
@[simp] theorem allD_nil : allD [] = some [] := Eq.trans rfl rfl
@[simp] theorem allD_cons (x : D) (r : List R) : allD (.d x :: r) = (allD r).map (x :: ·) := by
  show (match allD r with | some xs => some (x :: xs) | none => none) = _
  cases allD r <;> rfl
@[simp] theorem rdAll_nil : rdAll S [] = some [] := Eq.trans rfl rfl
@[simp] theorem rdAll_cons (x : R) (r : List R) : rdAll S (x :: r) = (rd S x).bind fun x' => (rdAll S r).map (x' :: ·) := by
  show (match rd S x, rdAll S r with | some x', some xs => some (x' :: xs) | _, _ => none) = _
  cases rd S x <;> cases rdAll S r <;> rfl
/-! calls -/
@[simp] theorem mCallP_ev (F : Fn) : mCallP F am ρ S = (am ρ S).bind fun xs S1 => optB (allD xs) fun ds => runP F ds S1 := by
  unfold mCallP
  congr 1; funext xs S1; cases allD xs <;> rfl
@[simp] theorem mCallS_ev (F : Fn) : mCallS F am ρ S = (am ρ S).bind fun xs S1 => F xs S1 := Eq.trans rfl rfl
theorem runP_ok {F : Fn} {ds : List D} {z : D} {S' : Store} (h : F (ds.map .d) [] = .ok (.d z) S') : runP F ds S = .ok (.d z) S := by unfold runP; rw [h]
theorem run1_ok {F : Fn} {i : Nat} {ds : List D} {z : D} {xs ys : List D} {T : Store} (hS : S[i]? = some (.lst xs)) (h : F (.ref 0 :: ds.map .d) [.lst xs] = .ok (.d z) (.lst ys :: T)) : run1 F i ds S = .ok (.d z) (S.set i (.lst ys)) := by
  unfold run1; simp only [hS, h]
def call1 (F : Fn) (S : Store) : List R → Res R
  | .ref i :: r => optB (allD r) fun ds => run1 F i ds S
  | _ => .no
@[simp] theorem call1_ref (F : Fn) (i : Nat) (r : List R) : call1 F S (.ref i :: r) = optB (allD r) fun ds => run1 F i ds S := Eq.trans rfl rfl
@[simp] theorem mCall1_ev (F : Fn) : mCall1 F am ρ S = (am ρ S).bind fun xs S1 => call1 F S1 xs := by
  unfold mCall1
  congr 1; funext xs S1
  cases xs with
  | nil => rfl
  | cons x r =>
    cases x with
    | d _ => rfl
    | ref i =>
      simp only [call1]
      cases allD r <;> rfl
/-! statements -/
def Out.seq (o : Out) (b : SM) : Out := match o with
  | .nx ρ1 S1 => b ρ1 S1
  | o => o
@[simp] theorem seq_nx (b : SM) : (Out.nx ρ S).seq b = b ρ S := Eq.trans rfl rfl
@[simp] theorem seq_rt (r : R) (b : SM) : (Out.rt r S).seq b = .rt r S := Eq.trans rfl rfl
@[simp] theorem seq_ex (x : Xn) (b : SM) : (Out.ex x ρ S).seq b = .ex x ρ S := Eq.trans rfl rfl
@[simp] theorem seq_no (b : SM) : Out.no.seq b = .no := Eq.trans rfl rfl
variable (sa sb : SM)
@[simp] theorem mSeq_ev : mSeq sa sb ρ S = (sa ρ S).seq sb := by
  unfold mSeq Out.seq
  cases sa ρ S <;> rfl
@[simp] theorem mSkip_ev : mSkip ρ S = .nx ρ S := Eq.trans rfl rfl
@[simp] theorem mExpr_ev : mExpr a ρ S = (a ρ S).out ρ fun _ S1 => .nx ρ S1 := Eq.trans rfl rfl
@[simp] theorem mRet_ev : mRet a ρ S = (a ρ S).out ρ fun r S1 => .rt r S1 := Eq.trans rfl rfl
@[simp] theorem mRetN_ev : mRetN ρ S = .rt (.d .none) S := Eq.trans rfl rfl
@[simp] theorem mIf_ev : mIf ta sa sb ρ S = (ta ρ S).out ρ fun k S1 => if k = true then sa ρ S1 else sb ρ S1 := by
  unfold mIf
  congr 1; funext k S1; cases k <;> rfl
def optG (o : Option (Env × Store)) : Out := match o with
  | some (ρ2, S2) => .nx ρ2 S2
  | none => .no
@[simp] theorem optG_some (x : Env × Store) : optG (some x) = .nx x.1 x.2 := Eq.trans rfl rfl
@[simp] theorem optG_none : optG none = .no := Eq.trans rfl rfl
@[simp] theorem mAsg_ev (t : GM) : mAsg t a ρ S = (a ρ S).out ρ fun r S1 => optG (t r ρ S1) := by
  unfold mAsg
  congr 1
@[simp] theorem gN_ev (i : Nat) (r : R) : gN i r ρ S = some (ρ.set i (some r), S) := Eq.trans rfl rfl
@[simp] theorem gT_tup (gs : List GM) (ds : List D) : gT gs (.d (.tuple ds)) ρ S = gAll gs ds ρ S := Eq.trans rfl rfl
@[simp] theorem gT_lst (gs : List GM) (ds : List D) : gT gs (.d (.list ds)) ρ S = gAll gs ds ρ S := Eq.trans rfl rfl
@[simp] theorem gAll_nil : gAll [] [] ρ S = some (ρ, S) := Eq.trans rfl rfl
@[simp] theorem gAll_cons (t : GM) (gs : List GM) (d : D) (ds : List D) : gAll (t :: gs) (d :: ds) ρ S = (t (.d d) ρ S).bind fun x => gAll gs ds x.1 x.2 := by
  show (match t (.d d) ρ S with | some (ρ1, S1) => gAll gs ds ρ1 S1 | none => none) = _
  cases t (.d d) ρ S <;> rfl
@[simp] theorem mSetL_ev (i : Nat) : mSetL i l ρ S = (l ρ S).out ρ fun ds S1 => if i < ρ.length then .nx (ρ.set i (some (.d (.list ds)))) S1 else .no := Eq.trans rfl rfl
@[simp] theorem mPar_ev (is : List Nat) : mPar is am ρ S = (am ρ S).out ρ fun rs S1 => if rs.length = is.length then .nx ((is.zip rs).foldl (fun ρ p => ρ.set p.1 (some p.2)) ρ) S1 else .no := Eq.trans rfl rfl
@[simp] theorem mRaise_ev (x : String) : mRaise x ρ S = .ex ⟨x, []⟩ ρ S := Eq.trans rfl rfl
@[simp] theorem mFor_ev (t : GM) : mFor l t sb ρ S = (l ρ S).out ρ fun ds S1 => forLoop t sb ds ρ S1 := Eq.trans rfl rfl
@[simp] theorem forLoop_nil (t : GM) : forLoop t sb [] ρ S = .nx ρ S := Eq.trans rfl rfl
def optO (o : Option (Env × Store)) (f : Env → Store → Out) : Out := match o with
  | some (ρ1, S1) => f ρ1 S1
  | none => .no
@[simp] theorem optO_some (x : Env × Store) (f : Env → Store → Out) : optO (some x) f = f x.1 x.2 := Eq.trans rfl rfl
theorem forLoop_cons (t : GM) (d : D) (ds : List D) : forLoop t sb (d :: ds) ρ S = optO (t (.d d) ρ S) fun ρ1 S1 => (sb ρ1 S1).seq fun ρ2 S2 => forLoop t sb ds ρ2 S2 := by
  show (match t (.d d) ρ S with | some (ρ1, S1) => (match sb ρ1 S1 with | .nx ρ2 S2 => forLoop t sb ds ρ2 S2 | o => o) | none => .no) = _
  cases t (.d d) ρ S with
  | none => rfl
  | some z =>
    obtain ⟨ρ1, S1⟩ := z
    show (match sb ρ1 S1 with | .nx ρ2 S2 => forLoop t sb ds ρ2 S2 | o => o) = (sb ρ1 S1).seq _
    unfold Out.seq
    cases sb ρ1 S1 <;> rfl
theorem whileLoop_succ (n : Nat) : whileLoop ta sb (n + 1) ρ S = (ta ρ S).out ρ fun k S1 => if k = true then (sb ρ S1).seq fun ρ2 S2 => whileLoop ta sb n ρ2 S2 else .nx ρ S1 := by
  show (ta ρ S).out ρ _ = _
  congr 1; funext k S1
  cases k with
  | false => rfl
  | true =>
    show (match sb ρ S1 with | .nx ρ2 S2 => whileLoop ta sb n ρ2 S2 | o => o) = (sb ρ S1).seq _
    unfold Out.seq
    cases sb ρ S1 <;> rfl
def outF (o : Out) : Res R := match o with
  | .nx _ S' => .ok (.d .none) S'
  | .rt r S' => .ok r S'
  | .ex x _ S' => .ex x S'
  | .no => .no
@[simp] theorem outF_nx : outF (.nx ρ S) = .ok (.d .none) S := Eq.trans rfl rfl
@[simp] theorem outF_rt (r : R) : outF (.rt r S) = .ok r S := Eq.trans rfl rfl
@[simp] theorem outF_ex (x : Xn) : outF (.ex x ρ S) = .ex x S := Eq.trans rfl rfl
theorem fnR_ev (n : Nat) (rs : List R) : fnR n sb rs S = outF (sb (startR n rs) S) := by
  unfold fnR outF
  cases sb (startR n rs) S <;> rfl
@[simp] theorem mLc_ev (own : List Nat) (t : GM) (el : EM) : mLc l own t ta el ρ S = (l ρ S).bind fun ds S1 => (noEx (lcLoop (wipeR ρ own) t ta el ds S1)).bind fun ys S2 => if ys.length ≤ sizeLine then .ok ys S2 else .no := by
  unfold mLc
  congr 1; funext ds S1
  cases lcLoop (wipeR ρ own) t ta el ds S1 <;> rfl
@[simp] theorem noEx_okE {α : Type} (x : α) : noEx (.ok x S) = .ok x S := Eq.trans rfl rfl
@[simp] theorem lcLoop_nil (t : GM) (el : EM) : lcLoop ρ t ta el [] S = .ok [] S := Eq.trans rfl rfl
def optL {β : Type} (o : Option (Env × Store)) (f : Env → Store → Res β) : Res β := match o with
  | some (ρ1, S1) => f ρ1 S1
  | none => .no
@[simp] theorem optL_some {β : Type} (x : Env × Store) (f : Env → Store → Res β) : optL (some x) f = f x.1 x.2 := Eq.trans rfl rfl
theorem lcLoop_cons (t : GM) (el : EM) (d : D) (ds : List D) : lcLoop ρ t ta el (d :: ds) S = optL (t (.d d) ρ S) fun ρ1 S1 => (ta ρ1 S1).bind fun k S2 => if k = true then
    (el ρ1 S2).bind fun r S3 => optB (rdR r) fun y => (lcLoop ρ t ta el ds S3).bind fun ys S4 => .ok (y :: ys) S4
    else lcLoop ρ t ta el ds S2 := by
  have e : lcLoop ρ t ta el (d :: ds) S = match t (.d d) ρ S with
    | some (ρ1, S1) => (ta ρ1 S1).bind fun k S2 => match k with
      | true => (el ρ1 S2).bind fun r S3 => match rdR r with
        | some y => (lcLoop ρ t ta el ds S3).bind fun ys S4 => .ok (y :: ys) S4
        | none => .no
      | false => lcLoop ρ t ta el ds S2
    | none => .no := rfl
  rw [e]
  cases t (.d d) ρ S with
  | none => rfl
  | some z =>
    obtain ⟨ρ1, S1⟩ := z
    simp only [optL_some]
    congr 1; funext k S2
    cases k with
    | false => rfl
    | true =>
      simp only [if_true]
      congr 1; funext r S3
      cases rdR r <;> rfl
@[simp] theorem wipeR_nil : wipeR ρ [] = ρ := Eq.trans rfl rfl
@[simp] theorem wipeR_cons (v : Nat) (vs : List Nat) : wipeR ρ (v :: vs) = (wipeR ρ vs).set v none := Eq.trans rfl rfl
/-- a comprehension that maps, no condition, nothing of the store changed -/
theorem lc_map {t : GM} {el : EM} {f : D → D} : ∀ {ds : List D}, (∀ d ∈ ds, ∃ ρ1 , t (.d d) ρ S = some (ρ1, S) ∧ el ρ1 S = .ok (.d (f d)) S) → lcLoop ρ t mYes el ds S = .ok (ds.map f) S
  | [], _ => rfl
  | d :: ds, h => by
    obtain ⟨ρ1, h1, h2⟩ := h d List.mem_cons_self
    rw [lcLoop_cons, h1]
    simp [h2, lc_map fun d' hd => h d' (List.mem_cons_of_mem _ hd)]
/-- .. that keeps some -/
theorem lc_filter {t : GM} {ta : TM} {el : EM} {p : D → Bool} {f : D → D} : ∀ {ds : List D}, (∀ d ∈ ds, ∃ ρ1 , t (.d d) ρ S = some (ρ1, S) ∧ ta ρ1 S = .ok (p d) S ∧ (p d = true → el ρ1 S = .ok (.d (f d)) S)) → lcLoop ρ t ta el ds S = .ok ((ds.filter p).map f) S
  | [], _ => rfl
  | d :: ds, h => by
    obtain ⟨ρ1, h1, h2, h3⟩ := h d List.mem_cons_self
    rw [lcLoop_cons, h1]
    have ih := lc_filter (t := t) (ta := ta) (el := el) (p := p) (f := f) fun d' hd => h d' (List.mem_cons_of_mem _ hd)
    cases q : p d with
    | false => simp [h2, q, ih]
    | true => simp [h2, q, ih, h3 q]
end
section
variable {α : Type} (g : α → D)
/-- a comprehension over typed items -/
theorem lc_of {ρ : Env} {S : Store} {t : GM} {ta : TM} {el : EM} {p : α → Bool} {f : α → D} : ∀ {xs : List α}, (∀ x ∈ xs, ∃ ρ1, t (.d (g x)) ρ S = some (ρ1, S) ∧ ta ρ1 S = .ok (p x) S ∧ (p x = true → el ρ1 S = .ok (.d (f x)) S)) → lcLoop ρ t ta el (xs.map g) S = .ok ((xs.filter p).map f) S
  | [], _ => rfl
  | x :: xs, h => by
    obtain ⟨ρ1, h1, h2, h3⟩ := h x List.mem_cons_self
    have ih := lc_of (xs := xs) fun x' hx => h x' (List.mem_cons_of_mem _ hx)
    rw [List.map_cons, lcLoop_cons, h1]
    cases q : p x with
    | false => simp [h2, q, ih]
    | true => simp [h2, q, ih, h3 q]
/-- .. without a condition -/
theorem lc_all {ρ : Env} {S : Store} {t : GM} {el : EM} {f : α → D} : ∀ {xs : List α}, (∀ x ∈ xs, ∃ ρ1, t (.d (g x)) ρ S = some (ρ1, S) ∧ el ρ1 S = .ok (.d (f x)) S) → lcLoop ρ t mYes el (xs.map g) S = .ok (xs.map f) S
  | [], _ => rfl
  | x :: xs, h => by
    obtain ⟨ρ1, h1, h2⟩ := h x List.mem_cons_self
    have ih := lc_all (xs := xs) fun x' hx => h x' (List.mem_cons_of_mem _ hx)
    rw [List.map_cons, lcLoop_cons, h1]
    simp [h2, ih]
end
def partR : R → Store → Res (Option Int)
  | .d (.int i), S => .ok (some i) S
  | _, _ => .no
@[simp] theorem partR_int (i : Int) (S : Store) : partR (.d (.int i)) S = .ok (some i) S := Eq.trans rfl rfl
@[simp] theorem mPart_ev (ρ : Env) (S : Store) (a : EM) : mPart a ρ S = (a ρ S).bind partR := by
  unfold mPart
  congr 1; funext x S1
  cases x with
  | ref _ => rfl
  | d y => cases y <;> rfl
theorem intsD_map : ∀ xs : List Int, intsD (xs.map .int) = some xs
  | [] => rfl
  | x :: xs => by show (intsD (xs.map .int)).map (x :: ·) = _; rw [intsD_map xs]; rfl
theorem boolsD_map : ∀ xs : List Bool, boolsD (xs.map .bool) = some xs
  | [] => rfl
  | x :: xs => by show (boolsD (xs.map .bool)).map (x :: ·) = _; rw [boolsD_map xs]; rfl
@[simp] theorem mSortSet_ev (ρ : Env) (S : Store) (l : IM) : mSortSet l ρ S = (l ρ S).bind fun ds S1 => optB (intsD ds) fun ns => if ns.length < 60 then .ok ((sortU ns).map .int) S1 else .no := by
  unfold mSortSet
  congr 1; funext ds S1
  cases intsD ds <;> rfl
@[simp] theorem intsD_nil : intsD [] = some [] := Eq.trans rfl rfl
@[simp] theorem intsD_cons (x : Int) (r : List D) : intsD (.int x :: r) = (intsD r).map (x :: ·) := Eq.trans rfl rfl
@[simp] theorem mSlice_ev (ρ : Env) (S : Store) (a : EM) (lo hi : OM) : mSlice a lo hi ρ S = (a ρ S).bind fun x S1 => (lo ρ S1).bind fun l S2 => (hi ρ S2).bind fun h S3 => optB (rd S3 x) fun x' => optR (sliceD x' l h) S3 := by
  unfold mSlice
  congr 1; funext x S1
  congr 1; funext l S2
  congr 1; funext h S3
  cases rd S3 x with
  | none => rfl
  | some x' =>
    simp only [optB_some]
    cases sliceD x' l h <;> rfl
@[simp] theorem mNoP_ev (ρ : Env) (S : Store) : mNoP ρ S = .ok none S := Eq.trans rfl rfl
/-! the operators -/
@[simp] theorem addD_int (a b : Int) : addD (.int a) (.int b) = some (.int (a + b)) := Eq.trans rfl rfl
@[simp] theorem subD_int (a b : Int) : subD (.int a) (.int b) = some (.int (a - b)) := Eq.trans rfl rfl
@[simp] theorem negD_int (a : Int) : negD (.int a) = some (.int (-a)) := Eq.trans rfl rfl
@[simp] theorem leD_int (a b : Int) : leD (.int a) (.int b) = some (.bool (decide (a ≤ b))) := Eq.trans rfl rfl
@[simp] theorem ltD_int (a b : Int) : ltD (.int a) (.int b) = some (.bool (decide (a < b))) := Eq.trans rfl rfl
@[simp] theorem gtD_int (a b : Int) : gtD (.int a) (.int b) = some (.bool (decide (b < a))) := Eq.trans rfl rfl
@[simp] theorem geD_int (a b : Int) : geD (.int a) (.int b) = some (.bool (decide (b ≤ a))) := Eq.trans rfl rfl
/-! equality of ints, tuples, lists, None -/
mutual
def pureT : D → Bool
  | .none => true
  | .int _ => true
  | .list xs => pureTs xs
  | .tuple xs => pureTs xs
  | _ => false
def pureTs : List D → Bool
  | [] => true
  | x :: xs => pureT x && pureTs xs
end
mutual
theorem eqv_pure : ∀ a b : D, pureT a = true → pureT b = true → (PyData.eqv a b = true ↔ a = b)
  | .none, .none, _, _ => by simp [PyData.eqv]
  | .none, .int _, _, _ => by simp [PyData.eqv]
  | .none, .list _, _, _ => by simp [PyData.eqv]
  | .none, .tuple _, _, _ => by simp [PyData.eqv]
  | .int _, .none, _, _ => by simp [PyData.eqv]
  | .int i, .int j, _, _ => by simp [PyData.eqv]
  | .int _, .list _, _, _ => by simp [PyData.eqv]
  | .int _, .tuple _, _, _ => by simp [PyData.eqv]
  | .list _, .none, _, _ => by simp [PyData.eqv]
  | .list _, .int _, _, _ => by simp [PyData.eqv]
  | .list xs, .list ys, h1, h2 => by
    have := eqvs_pure xs ys (by simpa [pureT] using h1) (by simpa [pureT] using h2)
    simpa [PyData.eqv] using this
  | .list _, .tuple _, _, _ => by simp [PyData.eqv]
  | .tuple _, .none, _, _ => by simp [PyData.eqv]
  | .tuple _, .int _, _, _ => by simp [PyData.eqv]
  | .tuple _, .list _, _, _ => by simp [PyData.eqv]
  | .tuple xs, .tuple ys, h1, h2 => by
    have := eqvs_pure xs ys (by simpa [pureT] using h1) (by simpa [pureT] using h2)
    simpa [PyData.eqv] using this
  | .bool _, _, h, _ => by cases h
  | .str _, _, h, _ => by cases h
  | .dict _, _, h, _ => by cases h
  | .none, .bool _, _, h => by cases h
  | .none, .str _, _, h => by cases h
  | .none, .dict _, _, h => by cases h
  | .int _, .bool _, _, h => by cases h
  | .int _, .str _, _, h => by cases h
  | .int _, .dict _, _, h => by cases h
  | .list _, .bool _, _, h => by cases h
  | .list _, .str _, _, h => by cases h
  | .list _, .dict _, _, h => by cases h
  | .tuple _, .bool _, _, h => by cases h
  | .tuple _, .str _, _, h => by cases h
  | .tuple _, .dict _, _, h => by cases h
theorem eqvs_pure : ∀ a b : List D, pureTs a = true → pureTs b = true → (PyData.eqvAll a b = true ↔ a = b)
  | [], [], _, _ => by simp [PyData.eqvAll]
  | [], _ :: _, _, _ => by simp [PyData.eqvAll]
  | _ :: _, [], _, _ => by simp [PyData.eqvAll]
  | x :: xs, y :: ys, h1, h2 => by
    unfold pureTs at h1 h2
    simp only [Bool.and_eq_true] at h1 h2
    rw [PyData.eqvAll, Bool.and_eq_true, eqv_pure x y h1.1 h2.1, eqvs_pure xs ys h1.2 h2.2, List.cons.injEq]
end
mutual
theorem lay_pure : ∀ a : D, pureT a = true → PyData.canLay0 a = true
  | .none, _ => rfl
  | .int _, _ => rfl
  | .list xs, h => by rw [PyData.canLay0]; exact lays_pure xs (by simpa [pureT] using h)
  | .tuple xs, h => by rw [PyData.canLay0]; exact lays_pure xs (by simpa [pureT] using h)
theorem lays_pure : ∀ a : List D, pureTs a = true → PyData.canLayAll0 a = true
  | [], _ => rfl
  | x :: xs, h => by
    unfold pureTs at h
    simp only [Bool.and_eq_true] at h
    rw [PyData.canLayAll0, lay_pure x h.1, lays_pure xs h.2]; rfl
end
theorem shaped_pure {a : D} (h : pureT a = true) (hd : a.depth ≤ 64) : SeqAt.shaped a = true := by
  unfold SeqAt.shaped
  rw [lay_pure a h]
  simp [hd]
theorem eqB_pure {a b : D} (h1 : pureT a = true) (h2 : pureT b = true) (d1 : a.depth ≤ 64) (d2 : b.depth ≤ 64) : eqB a b = some (PyData.eqv a b) := by
  unfold eqB
  rw [shaped_pure h1 d1, shaped_pure h2 d2]
  simp
theorem eqD_pure {a b : D} (h1 : pureT a = true) (h2 : pureT b = true) (d1 : a.depth ≤ 64) (d2 : b.depth ≤ 64) : eqD a b = some (.bool (PyData.eqv a b)) := by
  unfold eqD; rw [eqB_pure h1 h2 d1 d2]; rfl
theorem neD_pure {a b : D} (h1 : pureT a = true) (h2 : pureT b = true) (d1 : a.depth ≤ 64) (d2 : b.depth ≤ 64) : neD a b = some (.bool (!PyData.eqv a b)) := by
  unfold neD; rw [eqB_pure h1 h2 d1 d2]; rfl
theorem eqv_int (a b : Int) : PyData.eqv (.int a) (.int b) = decide (a = b) := by
  rw [Bool.eq_iff_iff]
  simp [PyData.eqv]
@[simp] theorem eqD_int (a b : Int) : eqD (.int a) (.int b) = some (.bool (decide (a = b))) := by
  rw [eqD_pure rfl rfl (by simp [PyData.depth]) (by simp [PyData.depth]), eqv_int]
@[simp] theorem neD_int (a b : Int) : neD (.int a) (.int b) = some (.bool (!decide (a = b))) := by
  rw [neD_pure rfl rfl (by simp [PyData.depth]) (by simp [PyData.depth]), eqv_int]
/-! places -/
theorem ixT (xs : List D) (k : Nat) (h : k < xs.length) : ixD (.tuple xs) (.int k) = xs[k]? := by
  have : (k : Int) < (xs.length : Int) := by omega
  simp [ixD, atD, L2.ixN, this]
theorem ixL (xs : List D) (k : Nat) (h : k < xs.length) : ixD (.list xs) (.int k) = xs[k]? := by
  have : (k : Int) < (xs.length : Int) := by omega
  simp [ixD, atD, L2.ixN, this]
theorem ixT_lit (xs : List D) (i : Int) (d : D) (h : 0 ≤ i ∧ xs[i.toNat]? = some d) : ixD (.tuple xs) (.int i) = some d := by
  obtain ⟨h0, h1⟩ := h
  have hl := (List.getElem?_eq_some_iff.mp h1).1
  have := ixT xs i.toNat hl
  rw [Int.toNat_of_nonneg h0] at this
  rw [this, h1]
theorem ixL_lit (xs : List D) (i : Int) (d : D) (h : 0 ≤ i ∧ xs[i.toNat]? = some d) : ixD (.list xs) (.int i) = some d := by
  obtain ⟨h0, h1⟩ := h
  have hl := (List.getElem?_eq_some_iff.mp h1).1
  have := ixL xs i.toNat hl
  rw [Int.toNat_of_nonneg h0] at this
  rw [this, h1]
@[simp] theorem ixT0 (a : D) (r : List D) : ixD (.tuple (a :: r)) (.int 0) = some a := ixT_lit _ _ _ ⟨by decide, rfl⟩
@[simp] theorem ixT1 (a b : D) (r : List D) : ixD (.tuple (a :: b :: r)) (.int 1) = some b := ixT_lit _ _ _ ⟨by decide, rfl⟩
@[simp] theorem ixT2 (a b c : D) (r : List D) : ixD (.tuple (a :: b :: c :: r)) (.int 2) = some c := ixT_lit _ _ _ ⟨by decide, rfl⟩
@[simp] theorem ixT3 (a b c d : D) (r : List D) : ixD (.tuple (a :: b :: c :: d :: r)) (.int 3) = some d := ixT_lit _ _ _ ⟨by decide, rfl⟩
@[simp] theorem ixT4 (a b c d e : D) (r : List D) : ixD (.tuple (a :: b :: c :: d :: e :: r)) (.int 4) = some e := ixT_lit _ _ _ ⟨by decide, rfl⟩
@[simp] theorem ixT5 (a b c d e f : D) (r : List D) : ixD (.tuple (a :: b :: c :: d :: e :: f :: r)) (.int 5) = some f := ixT_lit _ _ _ ⟨by decide, rfl⟩
@[simp] theorem ixL0 (a : D) (r : List D) : ixD (.list (a :: r)) (.int 0) = some a := ixL_lit _ _ _ ⟨by decide, rfl⟩
@[simp] theorem ixL1 (a b : D) (r : List D) : ixD (.list (a :: b :: r)) (.int 1) = some b := ixL_lit _ _ _ ⟨by decide, rfl⟩
@[simp] theorem ixL2 (a b c : D) (r : List D) : ixD (.list (a :: b :: c :: r)) (.int 2) = some c := ixL_lit _ _ _ ⟨by decide, rfl⟩
@[simp] theorem ixL3 (a b c d : D) (r : List D) : ixD (.list (a :: b :: c :: d :: r)) (.int 3) = some d := ixL_lit _ _ _ ⟨by decide, rfl⟩
@[simp] theorem intD_int (i : Int) : intD [.int i] = some (.int i) := Eq.trans rfl rfl
@[simp] theorem lenD_tup (xs : List D) : lenD [.tuple xs] = some (.int xs.length) := Eq.trans rfl rfl
@[simp] theorem lenD_lst (xs : List D) : lenD [.list xs] = some (.int xs.length) := Eq.trans rfl rfl
@[simp] theorem minD_int (a b : Int) : minD [.int a, .int b] = some (.int (min a b)) := Eq.trans rfl rfl
@[simp] theorem maxD_int (a b : Int) : maxD [.int a, .int b] = some (.int (max a b)) := Eq.trans rfl rfl
@[simp] theorem tupleD_lst (xs : List D) : tupleD [.list xs] = some (.tuple xs) := Eq.trans rfl rfl
@[simp] theorem tupleD_tup (xs : List D) : tupleD [.tuple xs] = some (.tuple xs) := Eq.trans rfl rfl
@[simp] theorem listD_lst (xs : List D) : listD [.list xs] = some xs := Eq.trans rfl rfl
@[simp] theorem listD_tup (xs : List D) : listD [.tuple xs] = some xs := Eq.trans rfl rfl
@[simp] theorem itD_lst (xs : List D) : itD (.list xs) = some xs := Eq.trans rfl rfl
@[simp] theorem itD_tup (xs : List D) : itD (.tuple xs) = some xs := Eq.trans rfl rfl
@[simp] theorem truD_bool (b : Bool) : truD (.bool b) = some b := Eq.trans rfl rfl
@[simp] theorem truD_none : truD .none = some false := Eq.trans rfl rfl
@[simp] theorem truD_int (i : Int) : truD (.int i) = some (i != 0) := Eq.trans rfl rfl
@[simp] theorem isT_ev (T : Ty) (d : D) : isT T d = some (.bool (T.has d)) := Eq.trans rfl rfl
theorem addD_tup {xs ys : List D} (h : xs.length + ys.length ≤ sizeLine) : addD (.tuple xs) (.tuple ys) = some (.tuple (xs ++ ys)) := if_pos h
theorem addD_lst {xs ys : List D} (h : xs.length + ys.length ≤ sizeLine) : addD (.list xs) (.list ys) = some (.list (xs ++ ys)) := if_pos h
theorem mulD_int {a b : Int} (h : mulOk a b = true) : mulD (.int a) (.int b) = some (.int (a * b)) := if_pos h
theorem mulOk_r {a b : Int} (h : -(2 ^ 64) < b ∧ b < 2 ^ 64) : mulOk a b = true := by
  unfold mulOk
  rw [decide_eq_true (p := -(2 ^ 64) < b ∧ b < 2 ^ 64) h]
  simp
theorem mulOk_l {a b : Int} (h : -(2 ^ 64) < a ∧ a < 2 ^ 64) : mulOk a b = true := by
  unfold mulOk
  rw [decide_eq_true (p := -(2 ^ 64) < a ∧ a < 2 ^ 64) h]
  simp
theorem modD_int {a b : Int} (h : 0 < b) : modD (.int a) (.int b) = some (.int (a % b)) := if_pos h
theorem divD_int {a b : Int} (h : 0 < b) (h2 : b < 2 ^ 4096) : divD (.int a) (.int b) = some (.int (a / b)) := by
  have : b.natAbs.log2 < 9000 := by
    have h3 : b.natAbs < 2 ^ 4096 := by omega
    have h4 : b.natAbs ≠ 0 := by omega
    have := (Nat.log2_lt h4).mpr h3
    omega
  exact if_pos (by simp [h, this])
@[simp] theorem isND_ev (a : D) : isND a .none = some (.bool (isNon a)) := Eq.trans rfl rfl
@[simp] theorem notND_ev (a : D) : notND a .none = some (.bool (!isNon a)) := Eq.trans rfl rfl
@[simp] theorem isNon_none : isNon .none = true := Eq.trans rfl rfl
@[simp] theorem isNon_bool (b : Bool) : isNon (.bool b) = false := Eq.trans rfl rfl
@[simp] theorem isNon_int (i : Int) : isNon (.int i) = false := Eq.trans rfl rfl
@[simp] theorem isNon_str (x : Str) : isNon (.str x) = false := Eq.trans rfl rfl
@[simp] theorem isNon_tup (xs : List D) : isNon (.tuple xs) = false := Eq.trans rfl rfl
@[simp] theorem isNon_lst (xs : List D) : isNon (.list xs) = false := Eq.trans rfl rfl
@[simp] theorem isBD_ev (a b : Bool) : isBD (.bool a) (.bool b) = some (.bool (decide (a = b))) := Eq.trans rfl rfl
@[simp] theorem notBD_ev (a b : Bool) : notBD (.bool a) (.bool b) = some (.bool (!decide (a = b))) := Eq.trans rfl rfl
theorem pureTs_map {α : Type} {g : α → D} (h : ∀ x, pureT (g x) = true) : ∀ xs : List α, pureTs (xs.map g) = true
  | [] => rfl
  | x :: xs => by rw [List.map_cons, pureTs, h x, pureTs_map h xs]; rfl
theorem depthAll_le {k : Nat} : ∀ {xs : List D}, (∀ x ∈ xs, x.depth ≤ k) → PyData.depthAll xs ≤ k
  | [], _ => by simp [PyData.depthAll]
  | x :: xs, h => by
    rw [PyData.depthAll]
    have h1 := h x List.mem_cons_self
    have h2 := depthAll_le (xs := xs) fun y hy => h y (List.mem_cons_of_mem _ hy)
    omega
theorem rangeD_map : ∀ (n : Nat) (lo : Int), rangeD lo n = (List.range n).map fun k => .int (lo + (k : Int))
  | 0, _ => rfl
  | n + 1, lo => by
    rw [List.range_succ_eq_map, List.map_cons, List.map_map, rangeD, rangeD_map n]
    congr 1
    · simp
    · refine List.map_congr_left fun k _ => ?_
      show PyData.int _ = PyData.int _
      congr 1
      have : ((k + 1 : Nat) : Int) = (k : Int) + 1 := by omega
      rw [this]; omega
theorem range1_nat {j : Int} (h0 : 0 ≤ j) (h : j ≤ 2 ^ 40) : range1 [.int j] = some ((List.range j.toNat).map fun k => .int (k : Int)) := by
  have hok : okR j = true := by unfold okR; simp; omega
  unfold range1
  simp only [hok, if_true, rangeD_map]
  congr 2
  funext k
  simp
theorem range2_nat {i j : Int} (h0 : -(2 ^ 40) ≤ i ∧ i ≤ 2 ^ 40) (h : -(2 ^ 40) ≤ j ∧ j ≤ 2 ^ 40) : range2 [.int i, .int j] = some ((List.range (j - i).toNat).map fun k => .int (i + (k : Int))) := by
  have h1 : okR i = true := by unfold okR; simp; omega
  have h2 : okR j = true := by unfold okR; simp; omega
  unfold range2
  simp only [h1, h2, rangeD_map, Bool.and_self, if_true]
mutual
/-- tuples, numbers, truth values, None -/
def okS : D → Bool
  | .none => true
  | .bool _ => true
  | .int _ => true
  | .tuple xs => decide (xs.length ≤ 100000) && okSs xs
  | _ => false
def okSs : List D → Bool
  | [] => true
  | x :: xs => okS x && okSs xs
end
theorem okSs_get : ∀ {xs : List D} {i : Nat} {x : D}, okSs xs = true → xs[i]? = some x → okS x = true
  | [], _, _, _, e => by simp at e
  | y :: ys, 0, x, h, e => by
    unfold okSs at h; simp only [Bool.and_eq_true] at h
    simp at e; subst e; exact h.1
  | y :: ys, i + 1, x, h, e => by
    unfold okSs at h; simp only [Bool.and_eq_true] at h
    exact okSs_get h.2 (by simpa using e)
theorem okSs_of : ∀ {xs : List D}, (∀ x ∈ xs, okS x = true) → okSs xs = true
  | [], _ => rfl
  | x :: xs, h => by rw [okSs, h x List.mem_cons_self, okSs_of fun y hy => h y (List.mem_cons_of_mem _ hy)]; rfl
theorem depth_get : ∀ {xs : List D} {i : Nat} {x : D}, xs[i]? = some x → x.depth ≤ PyData.depthAll xs
  | [], _, _, e => by simp at e
  | y :: ys, 0, x, e => by simp at e; subst e; rw [PyData.depthAll]; omega
  | y :: ys, i + 1, x, e => by
    have := depth_get (xs := ys) (i := i) (by simpa using e)
    rw [PyData.depthAll]; omega
theorem boolsD_const {α : Type} : ∀ xs : List α, boolsD (xs.map fun _ => .bool true) = some (xs.map fun _ => true)
  | [] => rfl
  | x :: xs => by show (boolsD (xs.map _)).map _ = _; rw [boolsD_const xs]; rfl
theorem allD1_const {α : Type} (xs : List α) : allD1 [.list (xs.map fun _ => .bool true)] = some (.bool true) := by
  show (boolsD _).map _ = _
  rw [boolsD_const]
  simp
theorem bools_map {α : Type} (f : α → Bool) : ∀ xs : List α, boolsD (xs.map fun x => .bool (f x)) = some (xs.map f)
  | [] => rfl
  | x :: xs => by show (boolsD (xs.map _)).map _ = _; rw [bools_map f xs]; rfl
theorem allD1_map {α : Type} (f : α → Bool) (xs : List α) : allD1 [.list (xs.map fun x => .bool (f x))] = some (.bool (xs.all f)) := by
  show (boolsD _).map _ = _
  rw [bools_map]
  simp [List.all_map, Function.comp_def]
def optS (o : Option Store) (ρ : Env) : Out := match o with
  | some S => .nx ρ S
  | none => .no
@[simp] theorem optS_some (S : Store) (ρ : Env) : optS (some S) ρ = .nx ρ S := Eq.trans rfl rfl
@[simp] theorem mPut_ev (o i v : EM) (ρ : Env) (S : Store) : mPut o i v ρ S = (v ρ S).out ρ fun rv S1 => (o ρ S1).out ρ fun ro S2 => (i ρ S2).out ρ fun ri S3 => optS (putR S3 ro ri rv) ρ := by
  unfold mPut
  congr 1
def optE (o : Option Store) : Res R := match o with
  | some S => .ok (.d .none) S
  | none => .no
@[simp] theorem optE_some (S : Store) : optE (some S) = .ok (.d .none) S := Eq.trans rfl rfl
@[simp] theorem mApp_ev (o v : EM) (ρ : Env) (S : Store) : mApp o v ρ S = (o ρ S).bind fun ro S1 => if isL S1 ro = true then (v ρ S1).bind fun rv S2 => optE (appR S2 ro rv) else .no := by
  unfold mApp
  congr 1; funext ro S1
  cases isL S1 ro <;> rfl
@[simp] theorem mDic0_ev (ρ : Env) (S : Store) : mDic0 ρ S = .ok (.ref S.length) (S ++ [.dic []]) := Eq.trans rfl rfl
def sitR : R → Store → Res (List D)
  | .ref n, S => match S[n]? with
    | some (.dic kvs) => optB (itemsD kvs) fun zs => .ok zs S
    | _ => .no
  | .d _, _ => .no
theorem sitR_ref {n : Nat} {S : Store} {kvs : List (D × R)} {zs : List D} (h : S[n]? = some (.dic kvs)) (hz : itemsD kvs = some zs) : sitR (.ref n) S = .ok zs S := by
  unfold sitR; simp [h, hz]
@[simp] theorem mSortItems_ev (d : EM) (ρ : Env) (S : Store) : mSortItems d ρ S = (d ρ S).bind sitR := by
  unfold mSortItems
  congr 1; funext r S1
  cases r with
  | d _ => rfl
  | ref n =>
    unfold sitR
    simp only
    cases S1[n]? with
    | none => rfl
    | some c =>
      cases c with
      | dic kvs =>
        show Res.opt (itemsD kvs) S1 = optB (itemsD kvs) fun zs => .ok zs S1
        cases itemsD kvs <;> rfl
      | _ => rfl
theorem insLe_map {α β : Type} {le : β → β → Bool} {g : α → β} (a : α) : ∀ l : List α, insLe le (g a) (l.map g) = (insLe (fun x y => le (g x) (g y)) a l).map g
  | [] => rfl
  | b :: r => by
    show (if le (g a) (g b) then _ else _) = (if le (g a) (g b) then _ else _ : List α).map g
    split
    · rfl
    · show g b :: insLe le (g a) (r.map g) = _
      rw [insLe_map a r]; rfl
theorem sortBy_map {α β : Type} {le : β → β → Bool} {g : α → β} : ∀ l : List α, sortBy le (l.map g) = (sortBy (fun x y => le (g x) (g y)) l).map g
  | [] => rfl
  | a :: l => by
    show insLe le (g a) (sortBy le (l.map g)) = (insLe _ a (sortBy _ l)).map g
    rw [sortBy_map l, insLe_map]
theorem insLe_perm {α : Type} {le : α → α → Bool} (a : α) : ∀ l : List α, (insLe le a l).Perm (a :: l)
  | [] => List.Perm.refl _
  | b :: r => by
    show (if le a b then a :: b :: r else b :: insLe le a r).Perm _
    split
    · exact List.Perm.refl _
    · exact ((insLe_perm a r).cons b).trans (List.Perm.swap a b r)
theorem sortBy_perm {α : Type} {le : α → α → Bool} : ∀ l : List α, (sortBy le l).Perm l
  | [] => List.Perm.refl _
  | a :: l => (insLe_perm a _).trans ((sortBy_perm l).cons a)
theorem sortBy_sorted {α : Type} {le : α → α → Bool} (tr : ∀ a b c, le a b = true → le b c = true → le a c = true) (to : ∀ a b, (le a b || le b a) = true) (l : List α) : (sortBy le l).Pairwise fun a b => le a b = true := by
  rw [sortBy_eq tr to]
  exact List.pairwise_mergeSort tr to l
theorem cut1 (xs : List D) : cutD xs (some 1) none = xs.drop 1 := by
  unfold cutD
  have e1 : HT.sIx xs.length 0 (some 1) = min 1 xs.length := by
    unfold HT.sIx
    simp
  have e2 : HT.sIx xs.length xs.length none = xs.length := rfl
  rw [e1, e2]
  cases xs with
  | nil => rfl
  | cons x r =>
    have : min 1 (x :: r).length = 1 := by simp
    rw [this]
    simp
theorem zipD_map {α β : Type} (f : α → D) (g : β → D) : ∀ (xs : List α) (ys : List β), zipD (xs.map f) (ys.map g) = (xs.zip ys).map fun p => .tuple [f p.1, g p.2]
  | [], _ => by simp [zipD]
  | _ :: _, [] => by simp [zipD]
  | x :: xs, y :: ys => by simp [zipD, zipD_map f g xs ys]
theorem mExt_at {i n : Nat} {l : IM} {ρ : Env} {S S1 : Store} {ds xs : List D} (h : ρ[i]? = some (some (.ref n))) (hl : l ρ S = .ok ds S1) (hS : S1[n]? = some (.lst xs)) (hz : xs.length + ds.length ≤ sizeLine) : mExt i l ρ S = .nx ρ (S1.set n (.lst (xs ++ ds))) := by
  unfold mExt
  simp [h, hl, hS, hz]
theorem enumD_cons (i : Nat) (x : D) (xs : List D) : enumD i (x :: xs) = .tuple [.int i, x] :: enumD (i + 1) xs := rfl
theorem enum1_tup (xs : List D) : enum1 [.tuple xs] = some (enumD 0 xs) := rfl
theorem enum1_lst (xs : List D) : enum1 [.list xs] = some (enumD 0 xs) := rfl
end Pi

set_option Elab.async false
set_option linter.all false
set_option maxRecDepth 100000
/-! PiFr: what a loop leaves as it was. -/
namespace Pi
open PySem
/-- all names but some stay -/
structure Fr (is : List Nat) (ρ ρ' : Env) : Prop where
  len : ρ'.length = ρ.length
  get : ∀ i, i ∉ is → ρ'[i]? = ρ[i]?
theorem Fr.refl (is : List Nat) (ρ : Env) : Fr is ρ ρ := ⟨rfl, fun _ _ => rfl⟩
theorem Fr.trans {is : List Nat} {ρ ρ1 ρ2 : Env} (h1 : Fr is ρ ρ1) (h2 : Fr is ρ1 ρ2) : Fr is ρ ρ2 := ⟨h2.len.trans h1.len, fun i hi => (h2.get i hi).trans (h1.get i hi)⟩
theorem Fr.set {is : List Nat} {ρ ρ' : Env} (h : Fr is ρ ρ') (i : Nat) (v : Option R) (hi : i ∈ is := by decide) : Fr is ρ (ρ'.set i v) :=
  ⟨by rw [List.length_set]; exact h.len, fun j hj => by rw [List.getElem?_set_ne (show i ≠ j from by intro e; subst e; exact hj hi)]; exact h.get j hj⟩
theorem Fr.mono {is js : List Nat} {ρ ρ' : Env} (h : Fr is ρ ρ') (hs : ∀ i ∈ is, i ∈ js := by decide) : Fr js ρ ρ' := ⟨h.len, fun i hi => h.get i fun q => hi (hs i q)⟩
/-! one step -/
theorem seq_of {a b : SM} {ρ ρ1 : Env} {S S1 : Store} {o : Out} (h : a ρ S = .nx ρ1 S1) (k : b ρ1 S1 = o) : mSeq a b ρ S = o := by rw [mSeq_ev, h, seq_nx]; exact k
theorem forN_of {i : Nat} {b : SM} {d : D} {ds : List D} {ρ ρ1 : Env} {S S1 : Store} {o : Out} (h : b (ρ.set i (some (.d d))) S = .nx ρ1 S1) (k : forLoop (gN i) b ds ρ1 S1 = o) : forLoop (gN i) b (d :: ds) ρ S = o := by
  rw [forLoop_cons]
  simp only [gN_ev, optO_some, h, seq_nx, k]
theorem forG_of {t : GM} {b : SM} {d : D} {ds : List D} {ρ ρ0 ρ1 : Env} {S S0 S1 : Store} {o : Out} (ht : t (.d d) ρ S = some (ρ0, S0)) (h : b ρ0 S0 = .nx ρ1 S1) (k : forLoop t b ds ρ1 S1 = o) : forLoop t b (d :: ds) ρ S = o := by
  rw [forLoop_cons]
  simp only [ht, optO_some, h, seq_nx, k]
theorem mFor_of {it : IM} {t : GM} {b : SM} {ds : List D} {ρ : Env} {S S1 : Store} {o : Out} (h : it ρ S = .ok ds S1) (k : forLoop t b ds ρ S1 = o) : mFor it t b ρ S = o := by
  rw [mFor_ev, h, Res.out_ok]; exact k
theorem while_of {c : TM} {b : SM} {n : Nat} {ρ ρ1 : Env} {S S1 S2 : Store} {o : Out} (hc : c ρ S = .ok true S1) (h : b ρ S1 = .nx ρ1 S2) (k : whileLoop c b n ρ1 S2 = o) : whileLoop c b (n + 1) ρ S = o := by
  rw [whileLoop_succ, hc]
  simp only [Res.out_ok, if_true, h, seq_nx, k]
theorem while_end {c : TM} {b : SM} {n : Nat} {ρ : Env} {S S1 : Store} (hc : c ρ S = .ok false S1) : whileLoop c b (n + 1) ρ S = .nx ρ S1 := by
  rw [whileLoop_succ, hc]
  simp only [Res.out_ok, Bool.false_eq_true, if_false]
theorem if_t {c : TM} {a b : SM} {ρ : Env} {S S1 : Store} {o : Out} (hc : c ρ S = .ok true S1) (k : a ρ S1 = o) : mIf c a b ρ S = o := by rw [mIf_ev, hc]; simpa using k
theorem if_f {c : TM} {a b : SM} {ρ : Env} {S S1 : Store} {o : Out} (hc : c ρ S = .ok false S1) (k : b ρ S1 = o) : mIf c a b ρ S = o := by rw [mIf_ev, hc]; simpa using k
theorem mWhile_ev' (n : Nat) (c : TM) (b : SM) (ρ : Env) (S : Store) : mWhile n c b ρ S = whileLoop c b n ρ S := rfl
theorem set_get {ρ : Env} {n i : Nat} {v : Option R} (hl : ρ.length = n) (hi : i < n) : (ρ.set i v)[i]? = some v := List.getElem?_set_self (by rw [hl]; exact hi)
theorem set_old {ρ : Env} {i j : Nat} {v : Option R} {w : Option (Option R)} (h : ρ[j]? = w) (hij : i ≠ j := by decide) : (ρ.set i v)[j]? = w := by rw [List.getElem?_set_ne hij]; exact h
theorem onlyL_of {g : D → D → Option D} {a b : D} {zs : List D} (h : g a b = some (.list zs)) : onlyL g a b = some zs := by
  unfold onlyL
  rw [h]
theorem rep_map {n : Nat} (k : Nat) : List.replicate n (PyData.int k) = (List.replicate n k).map fun x : Nat => PyData.int x := by simp
theorem downD_map : ∀ (n : Nat) (hi : Int), downD hi n = (List.range n).map fun k : Nat => .int (hi - (k : Int))
  | 0, _ => rfl
  | n + 1, hi => by
    rw [List.range_succ_eq_map, List.map_cons, List.map_map, downD, downD_map n]
    congr 1
    · simp
    · refine List.map_congr_left fun k _ => ?_
      show PyData.int _ = PyData.int _
      congr 1
      have : ((k + 1 : Nat) : Int) = (k : Int) + 1 := by omega
      rw [this]; omega
end Pi

set_option Elab.async false
set_option linter.all false
set_option maxRecDepth 100000
set_option maxHeartbeats 0
namespace G95
open PySem PySem.Spec PyProof.Rows L2 Pi
def top (i : Nat) : Stmt := PySem.Challenge.pw_serieskept_k95_whole_cells_joined_and_co.main.body.getD i (.Pass ⟨0, 0, 0, 0⟩)
/-! mirrors -/
def m_is_whole : Fn := fnR 3 ((mRet (mAndV (mOp1 (isT .int) (mVar 0)) (mAndV (mNotV (mOp1 (isT .bool) (mVar 0))) (mChain leD leD (mVar 1) (mVar 0) (mVar 2))))))
def m_is_tuple_of : Fn := fnR 3 ((mRet (mAndV (mOp1 (isT .tup) (mVar 0)) (mChain leD leD (mVar 1) (mCB lenD (mCons (mVar 0) mNil)) (mVar 2)))))
def m_joined : Fn := fnR 4 ((mSeq (mIf (mOrT (mB (mOp2 isND (mVar 0) (mD .none))) (mB (mOp2 isND (mVar 1) (mD .none))))
  (mRet (mIfE (mB (mOp2 isND (mVar 0) (mD .none))) (mVar 1) (mVar 0)))
  mSkip)
  (mSeq (mPar [2, 3] (mCons (mCB minD (mCons (mOp2 ixD (mVar 0) (mD (.int 3))) (mCons (mOp2 ixD (mVar 1) (mD (.int 3))) mNil))) (mCons (mCB maxD (mCons (mOp2 ixD (mVar 0) (mD (.int 4))) (mCons (mOp2 ixD (mVar 1) (mD (.int 4))) mNil))) mNil)))
  (mRet (mTup (mCons (mOp2 addD (mOp2 ixD (mVar 0) (mD (.int 0))) (mOp2 ixD (mVar 1) (mD (.int 0)))) (mCons (mOp2 ixD (mVar 0) (mD (.int 1))) (mCons (mOp2 ixD (mVar 1) (mD (.int 2))) (mCons (mVar 2) (mCons (mVar 3) (mCons (mOp2 addD (mOp2 ixD (mVar 0) (mD (.int 5))) (mOp2 ixD (mVar 1) (mD (.int 5)))) mNil)))))))))))
def m_joined_all : Fn := fnR 3 ((mSeq (mAsg (gN 1) (mD .none))
  (mSeq (mFor (mItS (mVar 0)) (gN 2)
  (mAsg (gN 1) (mCallP m_joined (mCons (mVar 1) (mCons (mVar 2) mNil)))))
  (mRet (mVar 1)))))
def m_fits_point : Fn := fnR 1 ((mRet (mAndV (mCallP m_is_tuple_of (mCons (mVar 0) (mCons (mD (.int 2)) (mCons (mD (.int 2)) mNil)))) (mAndV (mCallP m_is_whole (mCons (mOp2 ixD (mVar 0) (mD (.int 0))) (mCons (mD (.int 0)) (mCons (mD (.int 1000000000000000)) mNil)))) (mCallP m_is_whole (mCons (mOp2 ixD (mVar 0) (mD (.int 1))) (mCons (mOp1 negD (mD (.int 1000000000000))) (mCons (mD (.int 1000000000000)) mNil))))))))
def m_fits_rest : Fn := fnR 9 ((mSeq (mSetL 5 (mLc (mItS (mFrz (mSortSet (mDisp (mCons (mVar 2) (mCons (mVar 3) mNil)))))) [8] (gN 8) (mB (mOp2 notInD (mVar 8) (mVar 1))) (mVar 8)))
  (mSeq (mAsg (gN 6) (mOp2 subD (mOp2 subD (mVar 0) (mD (.int 2))) (mCB lenD (mCons (mVar 5) mNil))))
  (mSeq (mAsg (gN 7) (mOp2 addD (mCB sumD (mCons (mVar 1) mNil)) (mCB sumD (mCons (mVar 5) mNil))))
  (mRet (mAndV (mOp2 geD (mVar 6) (mD (.int 0))) (mChain leD leD (mOp2 addD (mVar 7) (mOp2 mulD (mVar 6) (mVar 2))) (mVar 4) (mOp2 addD (mVar 7) (mOp2 mulD (mVar 6) (mVar 3))))))))))
def m_fits_cell : Fn := fnR 9 ((mSeq (mIf (mOrT (mNotT (mTruth (mCallP m_is_tuple_of (mCons (mVar 0) (mCons (mD (.int 6)) (mCons (mD (.int 6)) mNil)))))) (mNotT (mTruth (mCallP m_is_whole (mCons (mOp2 ixD (mVar 0) (mD (.int 0))) (mCons (mD (.int 1)) (mCons (mD (.int 4096)) mNil)))))))
  (mRet (mD (.bool false)))
  mSkip)
  (mSeq (mIf (mOrT (mNotT (mTruth (mCallP m_fits_point (mCons (mOp2 ixD (mVar 0) (mD (.int 1))) mNil)))) (mOrT (mNotT (mTruth (mCallP m_fits_point (mCons (mOp2 ixD (mVar 0) (mD (.int 2))) mNil)))) (mB (mOp2 ltD (mOp2 subD (mOp2 ixD (mOp2 ixD (mVar 0) (mD (.int 2))) (mD (.int 0))) (mOp2 ixD (mOp2 ixD (mVar 0) (mD (.int 1))) (mD (.int 0)))) (mOp2 subD (mOp2 ixD (mVar 0) (mD (.int 0))) (mD (.int 1)))))))
  (mRet (mD (.bool false)))
  mSkip)
  (mSeq (mIf (mNotT (mTruth (mCB allD1 (mCons (mFrz (mLc (mItS (mSlice (mVar 0) (mPart (mD (.int 3))) mNoP)) [8] (gN 8) mYes (mAndV (mOp1 (isT .int) (mVar 8)) (mNotV (mOp1 (isT .bool) (mVar 8)))))) mNil))))
  (mRet (mD (.bool false)))
  mSkip)
  (mSeq (mAsg (gT [(gN 2), (gN 3), (gN 4), (gN 5), (gN 6), (gN 7)]) (mVar 0))
  (mSeq (mAsg (gN 1) (mTup (mCons (mOp2 ixD (mVar 3) (mD (.int 1))) (mCons (mOp2 ixD (mVar 4) (mD (.int 1))) mNil))))
  (mSeq (mIf (mOrT (mNotT (mB (mChain leD leD (mOp1 negD (mD (.int 1000000000000))) (mVar 5) (mCB minD (mCons (mVar 1) mNil))))) (mNotT (mB (mChain leD leD (mCB maxD (mCons (mVar 1) mNil)) (mVar 6) (mD (.int 1000000000000))))))
  (mRet (mD (.bool false)))
  mSkip)
  (mSeq (mIf (mB (mOp2 eqD (mVar 2) (mD (.int 1))))
  (mRet (mAndV (mOp2 eqD (mVar 3) (mVar 4)) (mOp2 eqD (mTup (mCons (mVar 5) (mCons (mVar 6) (mCons (mVar 7) mNil)))) (mOp2 mulD (mSlice (mVar 1) mNoP (mPart (mD (.int 1)))) (mD (.int 3))))))
  mSkip)
  (mRet (mCallP m_fits_rest (mCons (mVar 2) (mCons (mVar 1) (mCons (mVar 5) (mCons (mVar 6) (mCons (mVar 7) mNil)))))))))))))))
def m_power : Fn := fnR 3 ((mSeq (mAsg (gN 1) (mD (.int 1)))
  (mSeq (mFor (mItA range1 (mCons (mVar 0) mNil)) (gN 2)
  (mAsg (gN 1) (mOp2 mulD (mD (.int 2)) (mVar 1))))
  (mRet (mVar 1)))))
def m_cover_in : Fn := fnR 5 ((mSeq (mPar [2, 3] (mCons (mNew (mDisp mNil)) (mCons (mVar 0) mNil)))
  (mSeq (mWhile 300 (mB (mOp2 leD (mVar 3) (mVar 1)))
  (mSeq (mAsg (gN 4) (mD (.int 0)))
  (mSeq (mWhile 300 (mAndT (mB (mOp2 ltD (mOp2 addD (mVar 4) (mD (.int 1))) (mD (.int 51)))) (mAndT (mB (mOp2 eqD (mOp2 modD (mVar 3) (mCallP m_power (mCons (mOp2 addD (mVar 4) (mD (.int 1))) mNil))) (mD (.int 0)))) (mB (mOp2 leD (mOp2 subD (mOp2 addD (mVar 3) (mCallP m_power (mCons (mOp2 addD (mVar 4) (mD (.int 1))) mNil))) (mD (.int 1))) (mVar 1)))))
  (mAsg (gN 4) (mOp2 addD (mVar 4) (mD (.int 1)))))
  (mSeq (mExpr (mApp (mVar 2) (mTup (mCons (mVar 4) (mCons (mOp2 divD (mVar 3) (mCallP m_power (mCons (mVar 4) mNil))) mNil)))))
  (mAsg (gN 3) (mOp2 addD (mVar 3) (mCallP m_power (mCons (mVar 4) mNil))))))))
  (mRet (mVar 2)))))
def m_is_cell : Fn := fnR 1 ((mRet (mCallP m_fits_cell (mCons (mVar 0) mNil))))
def m_cells_joined : Fn := fnR 5 ((mSeq (mIf (mOrT (mNotT (mTruth (mCallP m_is_tuple_of (mCons (mVar 0) (mCons (mD (.int 0)) (mCons (mD (.int 256)) mNil)))))) (mNotT (mTruth (mCB allD1 (mCons (mFrz (mLc (mItS (mVar 0)) [2] (gN 2) mYes (mOrV (mOp2 isND (mVar 2) (mD .none)) (mCallP m_fits_cell (mCons (mVar 2) mNil))))) mNil)))))
  (mRaise "InvalidView")
  mSkip)
  (mSeq (mSetL 1 (mLc (mItS (mVar 0)) [2] (gN 2) (mB (mOp2 notND (mVar 2) (mD .none))) (mVar 2)))
  (mSeq (mIf (mNotT (mTruth (mCB allD1 (mCons (mFrz (mLc (mItA zip2 (mCons (mVar 1) (mCons (mSlice (mVar 1) (mPart (mD (.int 1))) mNoP) mNil))) [3, 4] (gT [(gN 3), (gN 4)]) mYes (mOp2 ltD (mOp2 ixD (mOp2 ixD (mVar 3) (mD (.int 2))) (mD (.int 0))) (mOp2 ixD (mOp2 ixD (mVar 4) (mD (.int 1))) (mD (.int 0)))))) mNil))))
  (mRaise "InvalidView")
  mSkip)
  (mRet (mCallP m_joined_all (mCons (mVar 1) mNil)))))))
def m_cover : Fn := fnR 2 ((mSeq (mIf (mOrT (mNotT (mTruth (mCallP m_is_whole (mCons (mVar 0) (mCons (mD (.int 0)) (mCons (mD (.int 1000000000000000)) mNil)))))) (mNotT (mTruth (mCallP m_is_whole (mCons (mVar 1) (mCons (mVar 0) (mCons (mD (.int 1000000000000000)) mNil)))))))
  (mRaise "InvalidNumber")
  mSkip)
  (mRet (mCB tupleD (mCons (mCallS m_cover_in (mCons (mVar 0) (mCons (mVar 1) mNil))) mNil)))))
def m_corners : Fn := fnR 8 ((mSeq (mIf (mOrT (mNotT (mTruth (mCallP m_is_tuple_of (mCons (mVar 0) (mCons (mD (.int 0)) (mCons (mD (.int 256)) mNil)))))) (mNotT (mTruth (mCB allD1 (mCons (mFrz (mLc (mItS (mVar 0)) [3] (gN 3) mYes (mOrV (mOp2 isND (mVar 3) (mD .none)) (mCallP m_fits_cell (mCons (mVar 3) mNil))))) mNil)))))
  (mRaise "InvalidView")
  mSkip)
  (mSeq (mAsg (gN 1) (mNew (mDisp mNil)))
  (mSeq (mFor (mItA enum1 (mCons (mVar 0) mNil)) (gT [(gN 2), (gN 3)])
  (mIf (mB (mOp2 notND (mVar 3) (mD .none)))
  (mSeq (mAsg (gN 4) (mFrz (mLc (mItS (mTup (mCons (mOp2 ixD (mOp2 ixD (mVar 3) (mD (.int 1))) (mD (.int 1))) (mCons (mOp2 ixD (mVar 3) (mD (.int 3))) (mCons (mOp2 ixD (mVar 3) (mD (.int 4))) (mCons (mOp2 ixD (mOp2 ixD (mVar 3) (mD (.int 2))) (mD (.int 1))) mNil)))))) [5] (gN 5) mYes (mTup (mCons (mVar 2) (mCons (mVar 5) mNil))))))
  (mExt 1 (mLc (mItA enum1 (mCons (mVar 4) mNil)) [6, 7] (gT [(gN 6), (gN 7)]) (mOrT (mB (mOp2 eqD (mVar 6) (mD (.int 0)))) (mB (mOp2 neD (mVar 7) (mOp2 ixD (mVar 4) (mOp2 subD (mVar 6) (mD (.int 1))))))) (mVar 7))))
  mSkip))
  (mRet (mCB tupleD (mCons (mVar 1) mNil)))))))
def m__law_cup : Fn := fnR 2 ((mSeq (mAsg (gN 1) (mCB absD (mCons (mOp2 ixD (mFrz (mOp2L (onlyL addD) (mFrz (mCBL listD (mCons (mVar 0) mNil))) (mFrz (mDisp (mCons (mD (.int 0)) mNil))))) (mD (.int 0))) mNil)))
  (mRet (mNew (mDisp (mCons (mIfE (mB (mOp2 geD (mVar 1) (mOp2 powD (mD (.int 10)) (mD (.int 18))))) (mOp2 divD (mVar 1) (mD (.int 79))) (mD (.int 0))) (mCons (mOp2 addD (mOp2 modD (mCB intD (mCons (mOp2 addD (mOp2 mulD (mVar 1) (mD (.int 313))) (mD (.int 4021))) mNil)) (mD (.int 2077498221))) (mD (.int 163))) mNil)))))))
def m__law_roll : Fn := fnR 4 ((mSeq (mIf (mB (mOp2 gtD (mOp2 ixD (mVar 0) (mD (.int 0))) (mD (.int 0))))
  (mSeq (mAsg (gN 3) (mOp2 modD (mCB intD (mCons (mOp2 ixD (mVar 0) (mD (.int 0))) mNil)) (mVar 1)))
  (mSeq (mPut (mVar 0) (mD (.int 0)) (mOp2 divD (mOp2 ixD (mVar 0) (mD (.int 0))) (mVar 1)))
  (mRet (mVar 3))))
  mSkip)
  (mSeq (mPut (mVar 0) (mD (.int 1)) (mOp2 modD (mCB intD (mCons (mOp2 addD (mOp2 mulD (mOp2 ixD (mVar 0) (mD (.int 1))) (mD (.int 30881))) (mD (.int 7879))) mNil)) (mD (.int 2147483399))))
  (mSeq (mAsg (gN 2) (mOp2 modD (mCB intD (mCons (mOp2 mulD (mOp2 ixD (mVar 0) (mD (.int 1))) (mOp2 addD (mOp2 ixD (mVar 0) (mD (.int 1))) (mD (.int 233)))) mNil)) (mD (.int 2147483563))))
  (mRet (mOp2 modD (mCB intD (mCons (mOp2 divD (mVar 2) (mD (.int 821))) mNil)) (mVar 1)))))))
def m__law_some : Fn := fnR 2 ((mRet (mOp2 ixD (mVar 1) (mCall1 m__law_roll (mCons (mVar 0) (mCons (mCB lenD (mCons (mVar 1) mNil)) mNil))))))
def m__law_same : Nat → Fn
  | 0 => fnR 3 mNoS
  | n + 1 => fnR 3 ((mSeq (mIf (mTruth (mOp1 (isT .tup) (mVar 1)))
  (mSeq (mIf (mOrT (mNotT (mTruth (mOp1 (isT .tup) (mVar 0)))) (mB (mOp2 neD (mCB lenD (mCons (mVar 0) mNil)) (mCB lenD (mCons (mVar 1) mNil)))))
  (mRet (mD (.bool false)))
  mSkip)
  (mRet (mCB allD1 (mCons (mFrz (mLc (mItA range1 (mCons (mCB lenD (mCons (mVar 1) mNil)) mNil)) [2] (gN 2) mYes (mCallP (m__law_same n) (mCons (mOp2 ixD (mVar 0) (mVar 2)) (mCons (mOp2 ixD (mVar 1) (mVar 2)) mNil))))) mNil))))
  mSkip)
  (mSeq (mIf (mB (mOp2 isND (mVar 1) (mD .none)))
  (mRet (mOp2 isND (mVar 0) (mD .none)))
  mSkip)
  (mSeq (mIf (mTruth (mOp1 (isT .bool) (mVar 1)))
  (mRet (mIfE (mTruth (mVar 1)) (mOp2 isBD (mVar 0) (mD (.bool true))) (mOp2 isBD (mVar 0) (mD (.bool false)))))
  mSkip)
  (mSeq (mIf (mTruth (mOp1 (isT .int) (mVar 1)))
  (mRet (mAndV (mOp1 (isT .int) (mVar 0)) (mAndV (mNotV (mOp1 (isT .bool) (mVar 0))) (mOp2 eqD (mCB intD (mCons (mVar 0) mNil)) (mVar 1)))))
  mSkip)
  (mRet (mAndV (mOp1 (isT .str) (mVar 0)) (mOp2 eqD mNo (mVar 1)))))))))
def m__law_cell : Fn := fnR 4 ((mSeq (mIf (mB (mOp2 eqD (mVar 0) (mFrz (mDisp mNil))))
  (mRet (mD .none))
  mSkip)
  (mSeq (mSetL 1 (mLc (mItS (mVar 0)) [2, 3] (gT [(gN 2), (gN 3)]) mYes (mVar 3)))
  (mRet (mTup (mCons (mCB lenD (mCons (mVar 0) mNil)) (mCons (mOp2 ixD (mVar 0) (mD (.int 0))) (mCons (mOp2 ixD (mVar 0) (mOp1 negD (mD (.int 1)))) (mCons (mCB minD (mCons (mVar 1) mNil)) (mCons (mCB maxD (mCons (mVar 1) mNil)) (mCons (mCB sumD (mCons (mVar 1) mNil)) mNil)))))))))))
def m__law_some_points : Fn := fnR 5 ((mSeq (mAsg (gN 3) mDic0)
  (mSeq (mFor (mItA range1 (mCons (mCall1 m__law_roll (mCons (mVar 0) (mCons (mOp2 addD (mVar 1) (mD (.int 1))) mNil))) mNil)) (gN 4)
  (mPut (mVar 3) (mCall1 m__law_roll (mCons (mVar 0) (mCons (mVar 2) mNil))) (mOp2 subD (mCall1 m__law_roll (mCons (mVar 0) (mCons (mD (.int 41)) mNil))) (mD (.int 20)))))
  (mRet (mCB tupleD (mCons (mFrz (mSortItems (mVar 3))) mNil))))))
def m_law : Fn := fnR 35 ((mSeq (mAsg (gN 1) (mCallS m__law_cup (mCons (mVar 0) mNil)))
  (mSeq (mFor (mItA range1 (mCons (mD (.int 5)) mNil)) (gN 2)
  (mSeq (mPar [12, 13, 11] (mCons (mCall1 m__law_some_points (mCons (mVar 1) (mCons (mD (.int 14)) (mCons (mD (.int 60)) mNil)))) (mCons (mTup mNil) (mCons (mD (.int 0)) mNil))))
  (mSeq (mWhile 300 (mB (mOp2 ltD (mVar 11) (mCB lenD (mCons (mVar 12) mNil))))
  (mSeq (mAsg (gN 14) (mOp2 addD (mD (.int 1)) (mCall1 m__law_roll (mCons (mVar 1) (mCons (mD (.int 5)) mNil)))))
  (mPar [13, 11] (mCons (mOp2 addD (mOp2 addD (mVar 13) (mTup (mCons (mCallP m__law_cell (mCons (mFrz (mCBL listD (mCons (mSlice (mVar 12) (mPart (mVar 11)) (mPart (mOp2 addD (mVar 11) (mVar 14)))) mNil))) mNil)) mNil))) (mOp2 mulD (mTup (mCons (mD .none) mNil)) (mCall1 m__law_roll (mCons (mVar 1) (mCons (mD (.int 2)) mNil))))) (mCons (mOp2 addD (mVar 11) (mVar 14)) mNil)))))
  (mSeq (mIf (mOrT (mNotT (mTruth (mCallP (m__law_same 8) (mCons (mCallP m_cells_joined (mCons (mVar 13) mNil)) (mCons (mCallP m__law_cell (mCons (mFrz (mCBL listD (mCons (mVar 12) mNil))) mNil)) mNil))))) (mB (mOp2 neD (mFrz (mLc (mItS (mVar 13)) [32] (gN 32) (mAndT (mB (mOp2 notND (mVar 32) (mD .none))) (mB (mOp2 notBD (mCallP m_is_cell (mCons (mVar 32) mNil)) (mD (.bool true))))) (mVar 32))) (mFrz (mDisp mNil)))))
  (mRet (mD (.bool false)))
  mSkip)
  (mSeq (mAsg (gN 4) (mFrz (mDisp mNil)))
  (mSeq (mFor (mItA range1 (mCons (mCB lenD (mCons (mVar 13) mNil)) mNil)) (gN 5)
  (mIf (mB (mOp2 notND (mOp2 ixD (mVar 13) (mVar 5)) (mD .none)))
  (mSeq (mAsg (gN 21) (mFrz (mDisp (mCons (mOp2 ixD (mOp2 ixD (mOp2 ixD (mVar 13) (mVar 5)) (mD (.int 1))) (mD (.int 1))) (mCons (mOp2 ixD (mOp2 ixD (mVar 13) (mVar 5)) (mD (.int 3))) (mCons (mOp2 ixD (mOp2 ixD (mVar 13) (mVar 5)) (mD (.int 4))) (mCons (mOp2 ixD (mOp2 ixD (mOp2 ixD (mVar 13) (mVar 5)) (mD (.int 2))) (mD (.int 1))) mNil)))))))
  (mAsg (gN 4) (mFrz (mOp2L (onlyL addD) (mVar 4) (mFrz (mLc (mItA range1 (mCons (mD (.int 4)) mNil)) [33] (gN 33) (mOrT (mB (mOp2 eqD (mVar 33) (mD (.int 0)))) (mB (mOp2 neD (mOp2 ixD (mVar 21) (mVar 33)) (mOp2 ixD (mVar 21) (mOp2 subD (mVar 33) (mD (.int 1))))))) (mTup (mCons (mVar 5) (mCons (mOp2 ixD (mVar 21) (mVar 33)) mNil)))))))))
  mSkip))
  (mSeq (mIf (mNotT (mTruth (mCallP (m__law_same 8) (mCons (mCallP m_corners (mCons (mVar 13) mNil)) (mCons (mCB tupleD (mCons (mVar 4) mNil)) mNil)))))
  (mRet (mD (.bool false)))
  mSkip)
  (mSeq (mPar [15, 16] (mCons (mCall1 m__law_roll (mCons (mVar 1) (mCons (mD (.int 4)) mNil))) (mCons (mCall1 m__law_roll (mCons (mVar 1) (mCons (mD (.int 4)) mNil))) mNil)))
  (mSeq (mAsg (gT [(gN 14), (gN 17), (gN 18), (gN 19)]) (mTup (mCons (mOp2 addD (mD (.int 2)) (mCall1 m__law_roll (mCons (mVar 1) (mCons (mD (.int 3)) mNil)))) (mCons (mCall1 m__law_roll (mCons (mVar 1) (mCons (mD (.int 3)) mNil))) (mCons (mOp2 addD (mD (.int 1)) (mCall1 m__law_roll (mCons (mVar 1) (mCons (mD (.int 4)) mNil)))) (mCons (mCall1 m__law_roll (mCons (mVar 1) (mCons (mD (.int 16)) mNil))) mNil))))))
  (mSeq (mAsg (gT [(gN 20), (gN 21)]) (mTup (mCons (mD (.bool false)) (mCons (mFrz (mDisp (mCons (mTup mNil) mNil))) mNil))))
  (mSeq (mFor (mItA range1 (mCons (mOp2 subD (mVar 14) (mD (.int 2))) mNil)) (gN 6)
  (mSeq (mAsg (gN 22) (mFrz (mDisp mNil)))
  (mSeq (mFor (mItS (mVar 21)) (gN 7)
  (mAsg (gN 22) (mFrz (mOp2L (onlyL addD) (mVar 22) (mFrz (mLc (mItA range1 (mCons (mD (.int 5)) mNil)) [34] (gN 34) mYes (mOp2 addD (mVar 7) (mTup (mCons (mVar 34) mNil)))))))))
  (mAsg (gN 21) (mVar 22)))))
  (mSeq (mFor (mItS (mVar 21)) (gN 7)
  (mSeq (mAsg (gN 23) (mOp2 addD (mOp2 addD (mTup (mCons (mVar 15) mNil)) (mVar 7)) (mTup (mCons (mVar 16) mNil))))
  (mAsg (gN 20) (mOrV (mVar 20) (mOp2 eqD (mTup (mCons (mCB minD (mCons (mVar 23) mNil)) (mCons (mCB maxD (mCons (mVar 23) mNil)) (mCons (mCB sumD (mCons (mVar 23) mNil)) mNil)))) (mTup (mCons (mVar 17) (mCons (mVar 18) (mCons (mVar 19) mNil)))))))))
  (mSeq (mIf (mNotT (mTruth (mCallP (m__law_same 8) (mCons (mCallP m_is_cell (mCons (mTup (mCons (mVar 14) (mCons (mTup (mCons (mD (.int 10)) (mCons (mVar 15) mNil))) (mCons (mTup (mCons (mD (.int 20)) (mCons (mVar 16) mNil))) (mCons (mVar 17) (mCons (mVar 18) (mCons (mVar 19) mNil))))))) mNil)) (mCons (mVar 20) mNil)))))
  (mRet (mD (.bool false)))
  mSkip)
  (mSeq (mAsg (gN 8) (mCall1 m__law_roll (mCons (mVar 1) (mCons (mD (.int 100)) mNil))))
  (mSeq (mAsg (gN 9) (mOp2 addD (mVar 8) (mCall1 m__law_roll (mCons (mVar 1) (mCons (mD (.int 60)) mNil)))))
  (mSeq (mPar [24, 25] (mCons (mCallP m_cover (mCons (mVar 8) (mCons (mVar 9) mNil))) (mCons (mVar 8) mNil)))
  (mSeq (mFor (mItS (mVar 24)) (gT [(gN 26), (gN 27)])
  (mSeq (mAsg (gN 28) (mD (.int 1)))
  (mSeq (mFor (mItA range1 (mCons (mVar 26) mNil)) (gN 29)
  (mAsg (gN 28) (mOp2 mulD (mD (.int 2)) (mVar 28))))
  (mSeq (mIf (mB (mOp2 neD (mOp2 mulD (mVar 27) (mVar 28)) (mVar 25)))
  (mRet (mD (.bool false)))
  mSkip)
  (mAsg (gN 25) (mOp2 addD (mVar 25) (mVar 28)))))))
  (mSeq (mAsg (gN 10) (mNew (mOp2L (onlyL mulD) (mFrz (mDisp (mCons (mD (.int 0)) mNil))) (mOp2 addD (mOp2 subD (mVar 9) (mVar 8)) (mD (.int 2))))))
  (mSeq (mFor (mItA range3 (mCons (mVar 9) (mCons (mOp2 subD (mVar 8) (mD (.int 1))) (mCons (mOp1 negD (mD (.int 1))) mNil)))) (gN 11)
  (mSeq (mPar [30, 28] (mCons (mFrz (mDisp mNil)) (mCons (mD (.int 1)) mNil)))
  (mSeq (mWhile 300 (mB (mOp2 leD (mVar 28) (mOp2 addD (mOp2 subD (mVar 9) (mVar 11)) (mD (.int 1)))))
  (mPar [30, 28] (mCons (mOp2 addD (mVar 30) (mIfE (mB (mOp2 eqD (mOp2 modD (mCB intD (mCons (mVar 11) mNil)) (mVar 28)) (mD (.int 0)))) (mFrz (mDisp (mCons (mOp2 ixD (mVar 10) (mOp2 subD (mOp2 addD (mVar 11) (mVar 28)) (mVar 8))) mNil))) (mFrz (mDisp mNil)))) (mCons (mOp2 mulD (mD (.int 2)) (mVar 28)) mNil))))
  (mPut (mVar 10) (mOp2 subD (mVar 11) (mVar 8)) (mOp2 addD (mD (.int 1)) (mCB minD (mCons (mVar 30) mNil)))))))
  (mIf (mOrT (mB (mOp2 neD (mVar 25) (mOp2 addD (mVar 9) (mD (.int 1))))) (mB (mOp2 neD (mCB lenD (mCons (mVar 24) mNil)) (mOp2 ixD (mVar 10) (mD (.int 0))))))
  (mRet (mD (.bool false)))
  mSkip))))))))))))))))))))
  (mSeq (mAsg (gN 3) (mFrz (mDisp (mCons (mD .none) (mCons (mTup mNil) (mCons (mTup (mCons (mD (.int 0)) (mCons (mTup (mCons (mD (.int 1)) (mCons (mD (.int 1)) mNil))) (mCons (mTup (mCons (mD (.int 1)) (mCons (mD (.int 1)) mNil))) (mCons (mD (.int 1)) (mCons (mD (.int 1)) (mCons (mD (.int 1)) mNil))))))) (mCons (mTup (mCons (mD (.int 1)) (mCons (mTup (mCons (mD (.int 1)) (mCons (mD (.int 1)) mNil))) (mCons (mTup (mCons (mD (.int 2)) (mCons (mD (.int 1)) mNil))) (mCons (mD (.int 1)) (mCons (mD (.int 1)) (mCons (mD (.int 1)) mNil))))))) (mCons (mTup (mCons (mD (.int 1)) (mCons (mTup (mCons (mD (.int 1)) (mCons (mD (.int 1)) mNil))) (mCons (mTup (mCons (mD (.int 1)) (mCons (mD (.int 1)) mNil))) (mCons (mD (.int 1)) (mCons (mD (.int 1)) (mCons (mD (.int 2)) mNil))))))) (mCons (mTup (mCons (mD (.int 3)) (mCons (mTup (mCons (mD (.int 1)) (mCons (mD (.int 1)) mNil))) (mCons (mTup (mCons (mD (.int 2)) (mCons (mD (.int 1)) mNil))) (mCons (mD (.int 1)) (mCons (mD (.int 1)) (mCons (mD (.int 3)) mNil))))))) (mCons (mTup (mCons (mD (.int 2)) (mCons (mTup (mCons (mD (.int 2)) (mCons (mD (.int 1)) mNil))) (mCons (mTup (mCons (mD (.int 1)) (mCons (mD (.int 1)) mNil))) (mCons (mD (.int 1)) (mCons (mD (.int 1)) (mCons (mD (.int 2)) mNil))))))) mNil))))))))))
  (mSeq (mAsg (gN 3) (mFrz (mOp2L (onlyL addD) (mVar 3) (mFrz (mDisp (mCons (mTup (mCons (mD (.int 2)) (mCons (mTup (mCons (mD (.int 1)) (mCons (mD (.int 1)) mNil))) (mCons (mTup (mCons (mD (.int 2)) (mCons (mD (.int 3)) mNil))) (mCons (mD (.int 2)) (mCons (mD (.int 3)) (mCons (mD (.int 4)) mNil))))))) (mCons (mTup (mCons (mD (.bool true)) (mCons (mTup (mCons (mD (.int 1)) (mCons (mD (.int 1)) mNil))) (mCons (mTup (mCons (mD (.int 1)) (mCons (mD (.int 1)) mNil))) (mCons (mD (.int 1)) (mCons (mD (.int 1)) (mCons (mD (.int 1)) mNil))))))) (mCons (mTup (mCons (mD (.int 1)) (mCons (mTup (mCons (mD (.int 1)) (mCons (mD (.bool true)) mNil))) (mCons (mTup (mCons (mD (.int 1)) (mCons (mD (.bool true)) mNil))) (mCons (mD (.int 1)) (mCons (mD (.int 1)) (mCons (mD (.int 1)) mNil))))))) (mCons (mFrz (mDisp (mCons (mD (.int 1)) (mCons (mTup (mCons (mD (.int 1)) (mCons (mD (.int 1)) mNil))) (mCons (mTup (mCons (mD (.int 1)) (mCons (mD (.int 1)) mNil))) (mCons (mD (.int 1)) (mCons (mD (.int 1)) (mCons (mD (.int 1)) mNil)))))))) (mCons (mTup (mCons (mD (.int 4097)) (mCons (mTup (mCons (mD (.int 0)) (mCons (mD (.int 0)) mNil))) (mCons (mTup (mCons (mD (.int 9999)) (mCons (mD (.int 0)) mNil))) (mCons (mD (.int 0)) (mCons (mD (.int 0)) (mCons (mD (.int 0)) mNil))))))) mNil))))))))))
  (mRet (mAndV (mOp2 eqD (mFrz (mLc (mItS (mVar 3)) [31] (gN 31) (mB (mOp2 notBD (mCallP m_is_cell (mCons (mVar 31) mNil)) (mD (.bool false)))) (mVar 31))) (mFrz (mDisp mNil))) (mAndV (mOp2 isBD (mCallP m_is_cell (mCons (mTup (mCons (mD (.int 4096)) (mCons (mTup (mCons (mD (.int 0)) (mCons (mD (.int 0)) mNil))) (mCons (mTup (mCons (mD (.int 4095)) (mCons (mD (.int 0)) mNil))) (mCons (mD (.int 0)) (mCons (mD (.int 0)) (mCons (mD (.int 0)) mNil))))))) mNil)) (mD (.bool true))) (mCallP (m__law_same 8) (mCons (mTup (mCons (mCallP m_cells_joined (mCons (mTup mNil) mNil)) (mCons (mCallP m_corners (mCons (mTup (mCons (mD .none) mNil)) mNil)) mNil))) (mCons (mTup (mCons (mD .none) (mCons (mTup mNil) mNil))) mNil)))))))))))
/-! what the head tells -/
structure Gs (P : Program) (w : World) (K : PySem.W.Frag) (mg : Str → Option Value) (base : Heap) : Prop where
  d_is_whole : ∃ f fd, FunD K "is_whole" "is_whole" (defArgs (top 7)) (defBody (top 7)) (defScope (top 7)) [] [] f fd ∧ mg "is_whole" = some (.ref f)
  d_is_tuple_of : ∃ f fd, FunD K "is_tuple_of" "is_tuple_of" (defArgs (top 8)) (defBody (top 8)) (defScope (top 8)) [] [] f fd ∧ mg "is_tuple_of" = some (.ref f)
  d_joined : ∃ f fd, FunD K "joined" "joined" (defArgs (top 13)) (defBody (top 13)) (defScope (top 13)) [] [] f fd ∧ mg "joined" = some (.ref f)
  d_joined_all : ∃ f fd, FunD K "joined_all" "joined_all" (defArgs (top 14)) (defBody (top 14)) (defScope (top 14)) [] [] f fd ∧ mg "joined_all" = some (.ref f)
  d_fits_point : ∃ f fd, FunD K "fits_point" "fits_point" (defArgs (top 15)) (defBody (top 15)) (defScope (top 15)) [] [] f fd ∧ mg "fits_point" = some (.ref f)
  d_fits_rest : ∃ f fd, FunD K "fits_rest" "fits_rest" (defArgs (top 17)) (defBody (top 17)) (defScope (top 17)) [] [] f fd ∧ mg "fits_rest" = some (.ref f)
  d_fits_cell : ∃ f fd, FunD K "fits_cell" "fits_cell" (defArgs (top 16)) (defBody (top 16)) (defScope (top 16)) [] [] f fd ∧ mg "fits_cell" = some (.ref f)
  d_power : ∃ f fd, FunD K "power" "power" (defArgs (top 19)) (defBody (top 19)) (defScope (top 19)) [] [] f fd ∧ mg "power" = some (.ref f)
  d_cover_in : ∃ f fd, FunD K "cover_in" "cover_in" (defArgs (top 18)) (defBody (top 18)) (defScope (top 18)) [] [] f fd ∧ mg "cover_in" = some (.ref f)
  d_is_cell : ∃ f fd, FunD K "is_cell" "is_cell" (defArgs (top 20)) (defBody (top 20)) (defScope (top 20)) [] [] f fd ∧ mg "is_cell" = some (.ref f)
  d_cells_joined : ∃ f fd, FunD K "cells_joined" "cells_joined" (defArgs (top 21)) (defBody (top 21)) (defScope (top 21)) [] [] f fd ∧ mg "cells_joined" = some (.ref f)
  d_cover : ∃ f fd, FunD K "cover" "cover" (defArgs (top 22)) (defBody (top 22)) (defScope (top 22)) [] [] f fd ∧ mg "cover" = some (.ref f)
  d_corners : ∃ f fd, FunD K "corners" "corners" (defArgs (top 23)) (defBody (top 23)) (defScope (top 23)) [] [] f fd ∧ mg "corners" = some (.ref f)
  d__law_cup : ∃ f fd, FunD K "_law_cup" "_law_cup" (defArgs (top 25)) (defBody (top 25)) (defScope (top 25)) [] [] f fd ∧ mg "_law_cup" = some (.ref f)
  d__law_roll : ∃ f fd, FunD K "_law_roll" "_law_roll" (defArgs (top 26)) (defBody (top 26)) (defScope (top 26)) [] [] f fd ∧ mg "_law_roll" = some (.ref f)
  d__law_some : ∃ f fd, FunD K "_law_some" "_law_some" (defArgs (top 27)) (defBody (top 27)) (defScope (top 27)) [] [] f fd ∧ mg "_law_some" = some (.ref f)
  d__law_same : ∃ f fd, FunD K "_law_same" "_law_same" (defArgs (top 28)) (defBody (top 28)) (defScope (top 28)) [] [] f fd ∧ mg "_law_same" = some (.ref f)
  d__law_cell : ∃ f fd, FunD K "_law_cell" "_law_cell" (defArgs (top 29)) (defBody (top 29)) (defScope (top 29)) [] [] f fd ∧ mg "_law_cell" = some (.ref f)
  d__law_some_points : ∃ f fd, FunD K "_law_some_points" "_law_some_points" (defArgs (top 30)) (defBody (top 30)) (defScope (top 30)) [] [] f fd ∧ mg "_law_some_points" = some (.ref f)
  d_law : ∃ f fd, FunD K "law" "law" (defArgs (top 31)) (defBody (top 31)) (defScope (top 31)) [] [] f fd ∧ mg "law" = some (.ref f)
  f_abs : mg "abs" = none
  f_all : mg "all" = none
  f_bool : mg "bool" = none
  f_enumerate : mg "enumerate" = none
  f_int : mg "int" = none
  f_isinstance : mg "isinstance" = none
  f_len : mg "len" = none
  f_list : mg "list" = none
  f_max : mg "max" = none
  f_min : mg "min" = none
  f_range : mg "range" = none
  f_set : mg "set" = none
  f_sorted : mg "sorted" = none
  f_str : mg "str" = none
  f_sum : mg "sum" = none
  f_tuple : mg "tuple" = none
  f_zip : mg "zip" = none
  i_TIME : ∃ t, mg "TIME" = some (.int 1000000000000000 t)
  i_VALUE : ∃ t, mg "VALUE" = some (.int 1000000000000 t)
  i_LEVELS : ∃ t, mg "LEVELS" = some (.int 51 t)
  i_COLUMNS : ∃ t, mg "COLUMNS" = some (.int 256 t)
  i_CELLS : ∃ t, mg "CELLS" = some (.int 4096 t)
  e_SeriesError : ExF K mg "SeriesError"
  e_InvalidNumber : ExF K mg "InvalidNumber"
  e_InvalidView : ExF K mg "InvalidView"
section
variable {P : Program} {w : World} {K : PySem.W.Frag} {mg : Str → Option Value} {base : Heap} (G : Gs P w K mg base)
theorem sc_is_whole : FnScope [Str.ofString "value", Str.ofString "low", Str.ofString "high"] [Str.ofString "value", Str.ofString "low", Str.ofString "high"] (defScope (top 7)) := ⟨rfl, rfl, rfl, by decide +kernel, rfl, by decide +kernel, by decide +kernel⟩
theorem sc_is_tuple_of : FnScope [Str.ofString "value", Str.ofString "low", Str.ofString "high"] [Str.ofString "value", Str.ofString "low", Str.ofString "high"] (defScope (top 8)) := ⟨rfl, rfl, rfl, by decide +kernel, rfl, by decide +kernel, by decide +kernel⟩
theorem sc_joined : FnScope [Str.ofString "one", Str.ofString "other", Str.ofString "least", Str.ofString "most"] [Str.ofString "one", Str.ofString "other"] (defScope (top 13)) := ⟨rfl, rfl, rfl, by decide +kernel, rfl, by decide +kernel, by decide +kernel⟩
theorem sc_joined_all : FnScope [Str.ofString "cells", Str.ofString "found", Str.ofString "cell"] [Str.ofString "cells"] (defScope (top 14)) := ⟨rfl, rfl, rfl, by decide +kernel, rfl, by decide +kernel, by decide +kernel⟩
theorem sc_fits_point : FnScope [Str.ofString "value"] [Str.ofString "value"] (defScope (top 15)) := ⟨rfl, rfl, rfl, by decide +kernel, rfl, by decide +kernel, by decide +kernel⟩
theorem sc_fits_rest : FnScope [Str.ofString "many", Str.ofString "ends", Str.ofString "least", Str.ofString "most", Str.ofString "whole", Str.ofString "needs", Str.ofString "rest", Str.ofString "base", Str.ofString "own"] [Str.ofString "many", Str.ofString "ends", Str.ofString "least", Str.ofString "most", Str.ofString "whole"] (defScope (top 17)) := ⟨rfl, rfl, rfl, by decide +kernel, rfl, by decide +kernel, by decide +kernel⟩
theorem sc_fits_cell : FnScope [Str.ofString "value", Str.ofString "ends", Str.ofString "many", Str.ofString "first", Str.ofString "last", Str.ofString "least", Str.ofString "most", Str.ofString "whole", Str.ofString "one"] [Str.ofString "value"] (defScope (top 16)) := ⟨rfl, rfl, rfl, by decide +kernel, rfl, by decide +kernel, by decide +kernel⟩
theorem sc_power : FnScope [Str.ofString "many", Str.ofString "found", Str.ofString "turn"] [Str.ofString "many"] (defScope (top 19)) := ⟨rfl, rfl, rfl, by decide +kernel, rfl, by decide +kernel, by decide +kernel⟩
theorem sc_cover_in : FnScope [Str.ofString "first", Str.ofString "last", Str.ofString "found", Str.ofString "at", Str.ofString "level"] [Str.ofString "first", Str.ofString "last"] (defScope (top 18)) := ⟨rfl, rfl, rfl, by decide +kernel, rfl, by decide +kernel, by decide +kernel⟩
theorem sc_is_cell : FnScope [Str.ofString "value"] [Str.ofString "value"] (defScope (top 20)) := ⟨rfl, rfl, rfl, by decide +kernel, rfl, by decide +kernel, by decide +kernel⟩
theorem sc_cells_joined : FnScope [Str.ofString "cells", Str.ofString "own", Str.ofString "cell", Str.ofString "one", Str.ofString "other"] [Str.ofString "cells"] (defScope (top 21)) := ⟨rfl, rfl, rfl, by decide +kernel, rfl, by decide +kernel, by decide +kernel⟩
theorem sc_cover : FnScope [Str.ofString "first", Str.ofString "last"] [Str.ofString "first", Str.ofString "last"] (defScope (top 22)) := ⟨rfl, rfl, rfl, by decide +kernel, rfl, by decide +kernel, by decide +kernel⟩
theorem sc_corners : FnScope [Str.ofString "cells", Str.ofString "found", Str.ofString "at", Str.ofString "cell", Str.ofString "rows", Str.ofString "own", Str.ofString "spot", Str.ofString "one"] [Str.ofString "cells"] (defScope (top 23)) := ⟨rfl, rfl, rfl, by decide +kernel, rfl, by decide +kernel, by decide +kernel⟩
theorem sc__law_cup : FnScope [Str.ofString "script", Str.ofString "cell"] [Str.ofString "script"] (defScope (top 25)) := ⟨rfl, rfl, rfl, by decide +kernel, rfl, by decide +kernel, by decide +kernel⟩
theorem sc__law_roll : FnScope [Str.ofString "cup", Str.ofString "many", Str.ofString "deep", Str.ofString "found"] [Str.ofString "cup", Str.ofString "many"] (defScope (top 26)) := ⟨rfl, rfl, rfl, by decide +kernel, rfl, by decide +kernel, by decide +kernel⟩
theorem sc__law_some : FnScope [Str.ofString "cup", Str.ofString "things"] [Str.ofString "cup", Str.ofString "things"] (defScope (top 27)) := ⟨rfl, rfl, rfl, by decide +kernel, rfl, by decide +kernel, by decide +kernel⟩
theorem sc__law_same : FnScope [Str.ofString "told", Str.ofString "due", Str.ofString "at"] [Str.ofString "told", Str.ofString "due"] (defScope (top 28)) := ⟨rfl, rfl, rfl, by decide +kernel, rfl, by decide +kernel, by decide +kernel⟩
theorem sc__law_cell : FnScope [Str.ofString "points", Str.ofString "values", Str.ofString "time", Str.ofString "value"] [Str.ofString "points"] (defScope (top 29)) := ⟨rfl, rfl, rfl, by decide +kernel, rfl, by decide +kernel, by decide +kernel⟩
theorem sc__law_some_points : FnScope [Str.ofString "cup", Str.ofString "most", Str.ofString "times", Str.ofString "found", Str.ofString "turn"] [Str.ofString "cup", Str.ofString "most", Str.ofString "times"] (defScope (top 30)) := ⟨rfl, rfl, rfl, by decide +kernel, rfl, by decide +kernel, by decide +kernel⟩
theorem sc_law : FnScope [Str.ofString "script", Str.ofString "cup", Str.ofString "turn", Str.ofString "bads", Str.ofString "due", Str.ofString "spot", Str.ofString "more", Str.ofString "row", Str.ofString "low", Str.ofString "high", Str.ofString "fewest", Str.ofString "at", Str.ofString "points", Str.ofString "cells", Str.ofString "many", Str.ofString "first", Str.ofString "last", Str.ofString "least", Str.ofString "most", Str.ofString "whole", Str.ofString "good", Str.ofString "rows", Str.ofString "longer", Str.ofString "values", Str.ofString "told", Str.ofString "here", Str.ofString "level", Str.ofString "place", Str.ofString "wide", Str.ofString "step", Str.ofString "ways", Str.ofString "odd", Str.ofString "cell", Str.ofString "by", Str.ofString "value"] [Str.ofString "script"] (defScope (top 31)) := ⟨rfl, rfl, rfl, by decide +kernel, rfl, by decide +kernel, by decide +kernel⟩
include G
theorem fx_is_whole : Fx P w K mg base "is_whole" 3 1 m_is_whole := by
  obtain ⟨f, fd, F, g⟩ := G.d_is_whole
  exact fx_of g F.kp (F.bindsN fun _ _ _ _ _ _ us hl => match us, hl with | [_, _, _], _ => rfl) rfl (fn_rule F sc_is_whole fun cdv A outer s H E hr tk hp => (is_last (is_ret (i_andV (i_isi .int (i_var 0) G.f_isinstance G.f_int) (i_andV (i_notV (i_isi .bool (i_var 0) G.f_isinstance G.f_bool)) (i_one (i_chain o_le o_le (i_var 1) (i_var 0) (i_var 2))))))))
theorem fx_is_tuple_of : Fx P w K mg base "is_tuple_of" 3 1 m_is_tuple_of := by
  obtain ⟨f, fd, F, g⟩ := G.d_is_tuple_of
  exact fx_of g F.kp (F.bindsN fun _ _ _ _ _ _ us hl => match us, hl with | [_, _, _], _ => rfl) rfl (fn_rule F sc_is_tuple_of fun cdv A outer s H E hr tk hp => (is_last (is_ret (i_andV (i_isi .tup (i_var 0) G.f_isinstance G.f_tuple) (i_one (i_chain o_le o_le (i_var 1) (i_cb c_len G.f_len (by decide +kernel) (i_cons (i_var 0) i_nil)) (i_var 2)))))))
theorem fx_joined : Fx P w K mg base "joined" 2 1 m_joined := by
  obtain ⟨f, fd, F, g⟩ := G.d_joined
  exact fx_of g F.kp (F.bindsN fun _ _ _ _ _ _ us hl => match us, hl with | [_, _], _ => rfl) rfl (fn_rule F sc_joined fun cdv A outer s H E hr tk hp => (is_cons (is_if (i_bt (i_orT (i_cmpT o_isN (i_var 0) i_non (nomark _)) (i_or1 (i_cmpT o_isN (i_var 1) i_non (nomark _)))))
  (is_last (is_ret (i_ifE (i_cmpT o_isN (i_var 0) i_non (nomark _)) (i_var 1) (i_var 0))))
  is_nil)
  (is_cons (is_par 2 3 sc_joined.nd (i_cons (i_cb (c_min rfl) G.f_min (by decide +kernel) (i_cons (i_ix o_ix (i_var 0) i_int) (i_cons (i_ix o_ix (i_var 1) i_int) i_nil))) (i_cons (i_cb (c_max rfl) G.f_max (by decide +kernel) (i_cons (i_ix o_ix (i_var 0) i_int) (i_cons (i_ix o_ix (i_var 1) i_int) i_nil))) i_nil)) (by rfl))
  (is_last (is_ret (i_tup (i_cons (i_bin o_add (i_ix o_ix (i_var 0) i_int) (i_ix o_ix (i_var 1) i_int)) (i_cons (i_ix o_ix (i_var 0) i_int) (i_cons (i_ix o_ix (i_var 1) i_int) (i_cons (i_var 2) (i_cons (i_var 3) (i_cons (i_bin o_add (i_ix o_ix (i_var 0) i_int) (i_ix o_ix (i_var 1) i_int)) i_nil))))))))))))
theorem fx_joined_all : Fx P w K mg base "joined_all" 1 2 m_joined_all := by
  obtain ⟨f, fd, F, g⟩ := G.d_joined_all
  exact fx_of g F.kp (F.bindsN fun _ _ _ _ _ _ us hl => match us, hl with | [_], _ => rfl) rfl (fn_rule F sc_joined_all fun cdv A outer s H E hr tk hp => (is_cons (is_set 1 sc_joined_all.nd i_non)
  (is_cons (is_for hp (i_itS (i_var 0)) (ig_name 2 sc_joined_all.nd)
  (is_last (is_set 1 sc_joined_all.nd (i_callP ((fx_joined G).mono (by first | decide | omega)) hr tk (i_cons (i_var 1) (i_cons (i_var 2) i_nil)) (len_cons (len_cons len_nil))))))
  (is_last (is_ret (i_var 1))))))
theorem fx_fits_point : Fx P w K mg base "fits_point" 1 2 m_fits_point := by
  obtain ⟨f, fd, F, g⟩ := G.d_fits_point
  exact fx_of g F.kp (F.bindsN fun _ _ _ _ _ _ us hl => match us, hl with | [_], _ => rfl) rfl (fn_rule F sc_fits_point fun cdv A outer s H E hr tk hp => (is_last (is_ret (i_andV (i_callP ((fx_is_tuple_of G).mono (by first | decide | omega)) hr tk (i_cons (i_var 0) (i_cons i_int (i_cons i_int i_nil))) (len_cons (len_cons (len_cons len_nil)))) (i_andV (i_callP ((fx_is_whole G).mono (by first | decide | omega)) hr tk (i_cons (i_ix o_ix (i_var 0) i_int) (i_cons i_int (i_cons (i_globI G.i_TIME) i_nil))) (len_cons (len_cons (len_cons len_nil)))) (i_one (i_callP ((fx_is_whole G).mono (by first | decide | omega)) hr tk (i_cons (i_ix o_ix (i_var 0) i_int) (i_cons (i_negD (i_globI G.i_VALUE)) (i_cons (i_globI G.i_VALUE) i_nil))) (len_cons (len_cons (len_cons len_nil))))))))))
theorem fx_fits_rest : Fx P w K mg base "fits_rest" 5 1 m_fits_rest := by
  obtain ⟨f, fd, F, g⟩ := G.d_fits_rest
  exact fx_of g F.kp (F.bindsN fun _ _ _ _ _ _ us hl => match us, hl with | [_, _, _, _, _], _ => rfl) rfl (fn_rule F sc_fits_rest fun cdv A outer s H E hr tk hp => (is_cons (is_setL (is_lcS (i := 5) (own := [(Str.ofString "own", 8)]) sc_fits_rest.nd (i_itS (i_frz (i_sortSet (i_lst (i_cons (i_var 2) (i_cons (i_var 3) i_nil))) G.f_sorted G.f_set))) (blkOk_by (by kernel_rfl)) (by decide) (fun _ _ _ _ _ => (ig_name 8 sc_fits_rest.nd)) (fun _ _ _ _ _ => (i_ts1 (i_cmpT (o_notIn (hu_of hr)) (i_var 8) (i_var 1) (by rfl)))) (fun _ _ _ _ _ => (i_var 8)) (sw_true rfl rfl rfl rfl)))
  (is_cons (is_set 6 sc_fits_rest.nd (i_bin o_sub (i_bin o_sub (i_var 0) i_int) (i_cb c_len G.f_len (by decide +kernel) (i_cons (i_var 5) i_nil))))
  (is_cons (is_set 7 sc_fits_rest.nd (i_bin o_add (i_cb (c_sum rfl) G.f_sum (by decide +kernel) (i_cons (i_var 1) i_nil)) (i_cb (c_sum rfl) G.f_sum (by decide +kernel) (i_cons (i_var 5) i_nil))))
  (is_last (is_ret (i_andV (i_cmp o_ge (i_var 6) i_int (nomark _)) (i_one (i_chain o_le o_le (i_bin o_add (i_var 7) (i_bin o_mul (i_var 6) (i_var 2))) (i_var 4) (i_bin o_add (i_var 7) (i_bin o_mul (i_var 6) (i_var 3))))))))))))
theorem fx_fits_cell : Fx P w K mg base "fits_cell" 1 3 m_fits_cell := by
  obtain ⟨f, fd, F, g⟩ := G.d_fits_cell
  exact fx_of g F.kp (F.bindsN fun _ _ _ _ _ _ us hl => match us, hl with | [_], _ => rfl) rfl (fn_rule F sc_fits_cell fun cdv A outer s H E hr tk hp => (is_cons (is_if (i_bt (i_orT (i_notT (i_tru (i_callP ((fx_is_tuple_of G).mono (by first | decide | omega)) hr tk (i_cons (i_var 0) (i_cons i_int (i_cons i_int i_nil))) (len_cons (len_cons (len_cons len_nil)))))) (i_or1 (i_notT (i_tru (i_callP ((fx_is_whole G).mono (by first | decide | omega)) hr tk (i_cons (i_ix o_ix (i_var 0) i_int) (i_cons i_int (i_cons (i_globI G.i_CELLS) i_nil))) (len_cons (len_cons (len_cons len_nil)))))))))
  (is_last (is_ret i_bl))
  is_nil)
  (is_cons (is_if (i_bt (i_orT (i_notT (i_tru (i_callP ((fx_fits_point G).mono (by first | decide | omega)) hr tk (i_cons (i_ix o_ix (i_var 0) i_int) i_nil) (len_cons len_nil)))) (i_orT (i_notT (i_tru (i_callP ((fx_fits_point G).mono (by first | decide | omega)) hr tk (i_cons (i_ix o_ix (i_var 0) i_int) i_nil) (len_cons len_nil)))) (i_or1 (i_cmpT (o_lt (hu_of hr)) (i_bin o_sub (i_ix o_ix (i_ix o_ix (i_var 0) i_int) i_int) (i_ix o_ix (i_ix o_ix (i_var 0) i_int) i_int)) (i_bin o_sub (i_ix o_ix (i_var 0) i_int) i_int) (nomark _))))))
  (is_last (is_ret i_bl))
  is_nil)
  (is_cons (is_if (i_notT (i_tru (i_cb (c_all rfl) G.f_all (by decide +kernel) (i_cons (i_frz (i_lc (own := [(Str.ofString "one", 8)]) sc_fits_cell.nd (i_itS (i_slice (i_var 0) (i_part i_int) i_noP)) (blkOk_by (by kernel_rfl)) (by decide) (fun _ _ _ _ _ => (ig_name 8 sc_fits_cell.nd)) (fun _ _ _ _ _ => i_ts0) (fun _ _ _ _ _ => (i_andV (i_isi .int (i_var 8) G.f_isinstance G.f_int) (i_one (i_notV (i_isi .bool (i_var 8) G.f_isinstance G.f_bool))))))) i_nil))))
  (is_last (is_ret i_bl))
  is_nil)
  (is_cons (is_asg (ig_tup (igs_cons (ig_name 2 sc_fits_cell.nd) (igs_cons (ig_name 3 sc_fits_cell.nd) (igs_cons (ig_name 4 sc_fits_cell.nd) (igs_cons (ig_name 5 sc_fits_cell.nd) (igs_cons (ig_name 6 sc_fits_cell.nd) (igs_cons (ig_name 7 sc_fits_cell.nd) igs_nil))))))) (i_var 0))
  (is_cons (is_set 1 sc_fits_cell.nd (i_tup (i_cons (i_ix o_ix (i_var 3) i_int) (i_cons (i_ix o_ix (i_var 4) i_int) i_nil))))
  (is_cons (is_if (i_bt (i_orT (i_notT (i_chainT o_le o_le (i_negD (i_globI G.i_VALUE)) (i_var 5) (i_cb (c_min rfl) G.f_min (by decide +kernel) (i_cons (i_var 1) i_nil)))) (i_or1 (i_notT (i_chainT o_le o_le (i_cb (c_max rfl) G.f_max (by decide +kernel) (i_cons (i_var 1) i_nil)) (i_var 6) (i_globI G.i_VALUE))))))
  (is_last (is_ret i_bl))
  is_nil)
  (is_cons (is_if (i_cmpT (o_eq (hu_of hr)) (i_var 2) i_int (nomark _))
  (is_last (is_ret (i_andV (i_cmp (o_eq (hu_of hr)) (i_var 3) (i_var 4) (nomark _)) (i_one (i_cmp (o_eq (hu_of hr)) (i_tup (i_cons (i_var 5) (i_cons (i_var 6) (i_cons (i_var 7) i_nil)))) (i_bin o_mul (i_slice (i_var 1) i_noP (i_part i_int)) i_int) (nomark _))))))
  is_nil)
  (is_last (is_ret (i_callP ((fx_fits_rest G).mono (by first | decide | omega)) hr tk (i_cons (i_var 2) (i_cons (i_var 1) (i_cons (i_var 5) (i_cons (i_var 6) (i_cons (i_var 7) i_nil))))) (len_cons (len_cons (len_cons (len_cons (len_cons len_nil))))))))))))))))
theorem fx_power : Fx P w K mg base "power" 1 1 m_power := by
  obtain ⟨f, fd, F, g⟩ := G.d_power
  exact fx_of g F.kp (F.bindsN fun _ _ _ _ _ _ us hl => match us, hl with | [_], _ => rfl) rfl (fn_rule F sc_power fun cdv A outer s H E hr tk hp => (is_cons (is_set 1 sc_power.nd i_int)
  (is_cons (is_for hp (i_range1 G.f_range (i_cons (i_var 0) i_nil)) (ig_name 2 sc_power.nd)
  (is_last (is_set 1 sc_power.nd (i_bin o_mul i_int (i_var 1)))))
  (is_last (is_ret (i_var 1))))))
theorem fx_cover_in : Fx P w K mg base "cover_in" 2 2 m_cover_in := by
  obtain ⟨f, fd, F, g⟩ := G.d_cover_in
  exact fx_of g F.kp (F.bindsN fun _ _ _ _ _ _ us hl => match us, hl with | [_, _], _ => rfl) rfl (fn_rule F sc_cover_in fun cdv A outer s H E hr tk hp => (is_cons (is_par 2 3 sc_cover_in.nd (i_cons (i_new (i_lst i_nil)) (i_cons (i_var 0) i_nil)) (by rfl))
  (is_cons (is_while 300 hp (i_cmpT o_le (i_var 3) (i_var 1) (nomark _))
  (is_cons (is_set 4 sc_cover_in.nd i_int)
  (is_cons (is_while 300 hp (i_bt (i_andT (i_cmpT (o_lt (hu_of hr)) (i_bin o_add (i_var 4) i_int) (i_globI G.i_LEVELS) (nomark _)) (i_andT (i_cmpT (o_eq (hu_of hr)) (i_bin o_mod (i_var 3) (i_callP ((fx_power G).mono (by first | decide | omega)) hr tk (i_cons (i_bin o_add (i_var 4) i_int) i_nil) (len_cons len_nil))) i_int (nomark _)) (i_and1 (i_cmpT o_le (i_bin o_sub (i_bin o_add (i_var 3) (i_callP ((fx_power G).mono (by first | decide | omega)) hr tk (i_cons (i_bin o_add (i_var 4) i_int) i_nil) (len_cons len_nil))) i_int) (i_var 1) (nomark _))))))
  (is_last (is_set 4 sc_cover_in.nd (i_bin o_add (i_var 4) i_int))))
  (is_cons (is_expr (i_app (i_var 2) (i_tup (i_cons (i_var 4) (i_cons (i_bin o_div (i_var 3) (i_callP ((fx_power G).mono (by first | decide | omega)) hr tk (i_cons (i_var 4) i_nil) (len_cons len_nil))) i_nil)))))
  (is_last (is_set 3 sc_cover_in.nd (i_bin o_add (i_var 3) (i_callP ((fx_power G).mono (by first | decide | omega)) hr tk (i_cons (i_var 4) i_nil) (len_cons len_nil)))))))))
  (is_last (is_ret (i_var 2))))))
theorem fx_is_cell : Fx P w K mg base "is_cell" 1 4 m_is_cell := by
  obtain ⟨f, fd, F, g⟩ := G.d_is_cell
  exact fx_of g F.kp (F.bindsN fun _ _ _ _ _ _ us hl => match us, hl with | [_], _ => rfl) rfl (fn_rule F sc_is_cell fun cdv A outer s H E hr tk hp => (is_last (is_ret (i_callP ((fx_fits_cell G).mono (by first | decide | omega)) hr tk (i_cons (i_var 0) i_nil) (len_cons len_nil)))))
theorem fx_cells_joined : Fx P w K mg base "cells_joined" 1 4 m_cells_joined := by
  obtain ⟨f, fd, F, g⟩ := G.d_cells_joined
  exact fx_of g F.kp (F.bindsN fun _ _ _ _ _ _ us hl => match us, hl with | [_], _ => rfl) rfl (fn_rule F sc_cells_joined fun cdv A outer s H E hr tk hp => (is_cons (is_if (i_bt (i_orT (i_notT (i_tru (i_callP ((fx_is_tuple_of G).mono (by first | decide | omega)) hr tk (i_cons (i_var 0) (i_cons i_int (i_cons (i_globI G.i_COLUMNS) i_nil))) (len_cons (len_cons (len_cons len_nil)))))) (i_or1 (i_notT (i_tru (i_cb (c_all rfl) G.f_all (by decide +kernel) (i_cons (i_frz (i_lc (own := [(Str.ofString "cell", 2)]) sc_cells_joined.nd (i_itS (i_var 0)) (blkOk_by (by kernel_rfl)) (by decide) (fun _ _ _ _ _ => (ig_name 2 sc_cells_joined.nd)) (fun _ _ _ _ _ => i_ts0) (fun _ _ _ _ _ => (i_orV (i_cmp o_isN (i_var 2) i_non (nomark _)) (i_one (i_callP ((fx_fits_cell G).mono (by first | decide | omega)) hr takes0 (i_cons (i_var 2) i_nil) (len_cons len_nil))))))) i_nil)))))))
  (is_last (is_raiseX G.e_InvalidView tk))
  is_nil)
  (is_cons (is_setL (is_lcS (i := 1) (own := [(Str.ofString "cell", 2)]) sc_cells_joined.nd (i_itS (i_var 0)) (blkOk_by (by kernel_rfl)) (by decide) (fun _ _ _ _ _ => (ig_name 2 sc_cells_joined.nd)) (fun _ _ _ _ _ => (i_ts1 (i_cmpT o_notN (i_var 2) i_non (nomark _)))) (fun _ _ _ _ _ => (i_var 2)) (sw_true rfl rfl rfl rfl)))
  (is_cons (is_if (i_notT (i_tru (i_cb (c_all rfl) G.f_all (by decide +kernel) (i_cons (i_frz (i_lc (own := [(Str.ofString "one", 3), (Str.ofString "other", 4)]) sc_cells_joined.nd (i_zip G.f_zip (i_cons (i_var 1) (i_cons (i_slice (i_var 1) (i_part i_int) i_noP) i_nil))) (blkOk_by (by kernel_rfl)) (by decide) (fun _ _ _ _ _ => (ig_tup (igs_cons (ig_name 3 sc_cells_joined.nd) (igs_cons (ig_name 4 sc_cells_joined.nd) igs_nil)))) (fun _ _ _ _ _ => i_ts0) (fun _ _ _ _ _ => (i_cmp (o_lt (hu_of hr)) (i_ix o_ix (i_ix o_ix (i_var 3) i_int) i_int) (i_ix o_ix (i_ix o_ix (i_var 4) i_int) i_int) (nomark _))))) i_nil))))
  (is_last (is_raiseX G.e_InvalidView tk))
  is_nil)
  (is_last (is_ret (i_callP ((fx_joined_all G).mono (by first | decide | omega)) hr tk (i_cons (i_var 1) i_nil) (len_cons len_nil))))))))
theorem fx_cover : Fx P w K mg base "cover" 2 3 m_cover := by
  obtain ⟨f, fd, F, g⟩ := G.d_cover
  exact fx_of g F.kp (F.bindsN fun _ _ _ _ _ _ us hl => match us, hl with | [_, _], _ => rfl) rfl (fn_rule F sc_cover fun cdv A outer s H E hr tk hp => (is_cons (is_if (i_bt (i_orT (i_notT (i_tru (i_callP ((fx_is_whole G).mono (by first | decide | omega)) hr tk (i_cons (i_var 0) (i_cons i_int (i_cons (i_globI G.i_TIME) i_nil))) (len_cons (len_cons (len_cons len_nil)))))) (i_or1 (i_notT (i_tru (i_callP ((fx_is_whole G).mono (by first | decide | omega)) hr tk (i_cons (i_var 1) (i_cons (i_var 0) (i_cons (i_globI G.i_TIME) i_nil))) (len_cons (len_cons (len_cons len_nil)))))))))
  (is_last (is_raiseX G.e_InvalidNumber tk))
  is_nil)
  (is_last (is_ret (i_ct c_tuple G.f_tuple (by decide +kernel) (i_cons (i_callS ((fx_cover_in G).mono (by first | decide | omega)) hr tk (i_cons (i_var 0) (i_cons (i_var 1) i_nil)) (len_cons (len_cons len_nil))) i_nil))))))
theorem fx_corners : Fx P w K mg base "corners" 1 4 m_corners := by
  obtain ⟨f, fd, F, g⟩ := G.d_corners
  exact fx_of g F.kp (F.bindsN fun _ _ _ _ _ _ us hl => match us, hl with | [_], _ => rfl) rfl (fn_rule F sc_corners fun cdv A outer s H E hr tk hp => (is_cons (is_if (i_bt (i_orT (i_notT (i_tru (i_callP ((fx_is_tuple_of G).mono (by first | decide | omega)) hr tk (i_cons (i_var 0) (i_cons i_int (i_cons (i_globI G.i_COLUMNS) i_nil))) (len_cons (len_cons (len_cons len_nil)))))) (i_or1 (i_notT (i_tru (i_cb (c_all rfl) G.f_all (by decide +kernel) (i_cons (i_frz (i_lc (own := [(Str.ofString "cell", 3)]) sc_corners.nd (i_itS (i_var 0)) (blkOk_by (by kernel_rfl)) (by decide) (fun _ _ _ _ _ => (ig_name 3 sc_corners.nd)) (fun _ _ _ _ _ => i_ts0) (fun _ _ _ _ _ => (i_orV (i_cmp o_isN (i_var 3) i_non (nomark _)) (i_one (i_callP ((fx_fits_cell G).mono (by first | decide | omega)) hr takes0 (i_cons (i_var 3) i_nil) (len_cons len_nil))))))) i_nil)))))))
  (is_last (is_raiseX G.e_InvalidView tk))
  is_nil)
  (is_cons (is_set 1 sc_corners.nd (i_new (i_lst i_nil)))
  (is_cons (is_for hp (i_enum G.f_enumerate (i_cons (i_var 0) i_nil)) (ig_tup (igs_cons (ig_name 2 sc_corners.nd) (igs_cons (ig_name 3 sc_corners.nd) igs_nil)))
  (is_last (is_if (i_cmpT o_notN (i_var 3) i_non (nomark _))
  (is_cons (is_set 4 sc_corners.nd (i_frz (i_lc (own := [(Str.ofString "own", 5)]) sc_corners.nd (i_itS (i_tup (i_cons (i_ix o_ix (i_ix o_ix (i_var 3) i_int) i_int) (i_cons (i_ix o_ix (i_var 3) i_int) (i_cons (i_ix o_ix (i_var 3) i_int) (i_cons (i_ix o_ix (i_ix o_ix (i_var 3) i_int) i_int) i_nil)))))) (blkOk_by (by kernel_rfl)) (by decide) (fun _ _ _ _ _ => (ig_name 5 sc_corners.nd)) (fun _ _ _ _ _ => i_ts0) (fun _ _ _ _ _ => (i_tup (i_cons (i_var 2) (i_cons (i_var 5) i_nil)))))))
  (is_last (is_ext 1 sc_corners.nd (i_lc (own := [(Str.ofString "spot", 6), (Str.ofString "one", 7)]) sc_corners.nd (i_enum G.f_enumerate (i_cons (i_var 4) i_nil)) (blkOk_by (by kernel_rfl)) (by decide) (fun _ _ _ _ _ => (ig_tup (igs_cons (ig_name 6 sc_corners.nd) (igs_cons (ig_name 7 sc_corners.nd) igs_nil)))) (fun _ _ _ _ _ => (i_ts1 (i_bt (i_orT (i_cmpT (o_eq (hu_of hr)) (i_var 6) i_int (nomark _)) (i_or1 (i_cmpT (o_ne (hu_of hr)) (i_var 7) (i_ix o_ix (i_var 4) (i_bin o_sub (i_var 6) i_int)) (nomark _))))))) (fun _ _ _ _ _ => (i_var 7))))))
  is_nil)))
  (is_last (is_ret (i_ct c_tuple G.f_tuple (by decide +kernel) (i_cons (i_var 1) i_nil))))))))
theorem fx__law_cup : Fx P w K mg base "_law_cup" 1 1 m__law_cup := by
  obtain ⟨f, fd, F, g⟩ := G.d__law_cup
  exact fx_of g F.kp (F.bindsN fun _ _ _ _ _ _ us hl => match us, hl with | [_], _ => rfl) rfl (fn_rule F sc__law_cup fun cdv A outer s H E hr tk hp => (is_cons (is_set 1 sc__law_cup.nd (i_cb c_abs G.f_abs (by decide +kernel) (i_cons (i_ix o_ix (i_frz (i_op2L o_addL (i_frz (i_ctL c_list G.f_list (by decide +kernel) (i_cons (i_var 0) i_nil))) (i_frz (i_lst (i_cons i_int i_nil))))) i_int) i_nil)))
  (is_last (is_ret (i_new (i_lst (i_cons (i_ifE (i_cmpT o_ge (i_var 1) (i_bin o_pow i_int i_int) (nomark _)) (i_bin o_div (i_var 1) i_int) i_int) (i_cons (i_bin o_add (i_bin o_mod (i_ct c_int G.f_int (by decide +kernel) (i_cons (i_bin o_add (i_bin o_mul (i_var 1) i_int) i_int) i_nil)) i_int) i_int) i_nil))))))))
theorem fx__law_roll : Fx P w K mg base "_law_roll" 2 1 m__law_roll := by
  obtain ⟨f, fd, F, g⟩ := G.d__law_roll
  exact fx_of g F.kp (F.bindsN fun _ _ _ _ _ _ us hl => match us, hl with | [_, _], _ => rfl) rfl (fn_rule F sc__law_roll fun cdv A outer s H E hr tk hp => (is_cons (is_if (i_cmpT o_gt (i_ix o_ix (i_var 0) i_int) i_int (nomark _))
  (is_cons (is_set 3 sc__law_roll.nd (i_bin o_mod (i_ct c_int G.f_int (by decide +kernel) (i_cons (i_ix o_ix (i_var 0) i_int) i_nil)) (i_var 1)))
  (is_cons (is_put (hu_of hr) (i_bin o_div (i_ix o_ix (i_var 0) i_int) (i_var 1)) (i_var 0) i_int)
  (is_last (is_ret (i_var 3)))))
  is_nil)
  (is_cons (is_put (hu_of hr) (i_bin o_mod (i_ct c_int G.f_int (by decide +kernel) (i_cons (i_bin o_add (i_bin o_mul (i_ix o_ix (i_var 0) i_int) i_int) i_int) i_nil)) i_int) (i_var 0) i_int)
  (is_cons (is_set 2 sc__law_roll.nd (i_bin o_mod (i_ct c_int G.f_int (by decide +kernel) (i_cons (i_bin o_mul (i_ix o_ix (i_var 0) i_int) (i_bin o_add (i_ix o_ix (i_var 0) i_int) i_int)) i_nil)) i_int))
  (is_last (is_ret (i_bin o_mod (i_ct c_int G.f_int (by decide +kernel) (i_cons (i_bin o_div (i_var 2) i_int) i_nil)) (i_var 1))))))))
theorem fx__law_some : Fx P w K mg base "_law_some" 2 2 m__law_some := by
  obtain ⟨f, fd, F, g⟩ := G.d__law_some
  exact fx_of g F.kp (F.bindsN fun _ _ _ _ _ _ us hl => match us, hl with | [_, _], _ => rfl) rfl (fn_rule F sc__law_some fun cdv A outer s H E hr tk hp => (is_last (is_ret (i_ix o_ix (i_var 1) (i_call1 ((fx__law_roll G).mono (by first | decide | omega)) hr tk (i_cons (i_var 0) (i_cons (i_cb c_len G.f_len (by decide +kernel) (i_cons (i_var 1) i_nil)) i_nil)) (len_cons (len_cons len_nil)))))))
theorem fx__law_same : ∀ n : Nat, Fx P w K mg base "_law_same" 2 (1 + n) (m__law_same n)
  | 0 => by
    obtain ⟨f, fd, F, g⟩ := G.d__law_same
    exact fx_of g F.kp (F.bindsN fun _ _ _ _ _ _ us hl => match us, hl with | [_, _], _ => rfl) rfl (fn_rule F sc__law_same fun cdv A outer s H E hr tk hp => iss_no)
  | n + 1 => by
    have ih := fx__law_same n
    obtain ⟨f, fd, F, g⟩ := G.d__law_same
    exact fx_of g F.kp (F.bindsN fun _ _ _ _ _ _ us hl => match us, hl with | [_, _], _ => rfl) rfl (fn_rule F sc__law_same fun cdv A outer s H E hr tk hp => (is_cons (is_if (i_tru (i_isi .tup (i_var 1) G.f_isinstance G.f_tuple))
  (is_cons (is_if (i_bt (i_orT (i_notT (i_tru (i_isi .tup (i_var 0) G.f_isinstance G.f_tuple))) (i_or1 (i_cmpT (o_ne (hu_of hr)) (i_cb c_len G.f_len (by decide +kernel) (i_cons (i_var 0) i_nil)) (i_cb c_len G.f_len (by decide +kernel) (i_cons (i_var 1) i_nil)) (nomark _)))))
  (is_last (is_ret i_bl))
  is_nil)
  (is_last (is_ret (i_cb (c_all rfl) G.f_all (by decide +kernel) (i_cons (i_frz (i_lc (own := [(Str.ofString "at", 2)]) sc__law_same.nd (i_range1 G.f_range (i_cons (i_cb c_len G.f_len (by decide +kernel) (i_cons (i_var 1) i_nil)) i_nil)) (blkOk_by (by kernel_rfl)) (by decide) (fun _ _ _ _ _ => (ig_name 2 sc__law_same.nd)) (fun _ _ _ _ _ => i_ts0) (fun _ _ _ _ _ => (i_callP (ih.mono (Nat.le_refl _)) hr takes0 (i_cons (i_ix o_ix (i_var 0) (i_var 2)) (i_cons (i_ix o_ix (i_var 1) (i_var 2)) i_nil)) (len_cons (len_cons len_nil)))))) i_nil)))))
  is_nil)
  (is_cons (is_if (i_cmpT o_isN (i_var 1) i_non (nomark _))
  (is_last (is_ret (i_cmp o_isN (i_var 0) i_non (nomark _))))
  is_nil)
  (is_cons (is_if (i_tru (i_isi .bool (i_var 1) G.f_isinstance G.f_bool))
  (is_last (is_ret (i_ifE (i_tru (i_var 1)) (i_cmp o_isB (i_var 0) i_bl (nomark _)) (i_cmp o_isB (i_var 0) i_bl (nomark _)))))
  is_nil)
  (is_cons (is_if (i_tru (i_isi .int (i_var 1) G.f_isinstance G.f_int))
  (is_last (is_ret (i_andV (i_isi .int (i_var 0) G.f_isinstance G.f_int) (i_andV (i_notV (i_isi .bool (i_var 0) G.f_isinstance G.f_bool)) (i_one (i_cmp (o_eq (hu_of hr)) (i_ct c_int G.f_int (by decide +kernel) (i_cons (i_var 0) i_nil)) (i_var 1) (nomark _)))))))
  is_nil)
  (is_last (is_ret (i_andV (i_isi .str (i_var 0) G.f_isinstance G.f_str) (i_one (i_cmp (o_eq (hu_of hr)) i_no (i_var 1) (nomark _)))))))))))
theorem fx__law_cell : Fx P w K mg base "_law_cell" 1 1 m__law_cell := by
  obtain ⟨f, fd, F, g⟩ := G.d__law_cell
  exact fx_of g F.kp (F.bindsN fun _ _ _ _ _ _ us hl => match us, hl with | [_], _ => rfl) rfl (fn_rule F sc__law_cell fun cdv A outer s H E hr tk hp => (is_cons (is_if (i_cmpT (o_eq (hu_of hr)) (i_var 0) (i_frz (i_lst i_nil)) (nomark _))
  (is_last (is_ret i_non))
  is_nil)
  (is_cons (is_setL (is_lcS (i := 1) (own := [(Str.ofString "time", 2), (Str.ofString "value", 3)]) sc__law_cell.nd (i_itS (i_var 0)) (blkOk_by (by kernel_rfl)) (by decide) (fun _ _ _ _ _ => (ig_tup (igs_cons (ig_name 2 sc__law_cell.nd) (igs_cons (ig_name 3 sc__law_cell.nd) igs_nil)))) (fun _ _ _ _ _ => i_ts0) (fun _ _ _ _ _ => (i_var 3)) (sw_true rfl rfl rfl rfl)))
  (is_last (is_ret (i_tup (i_cons (i_cb c_len G.f_len (by decide +kernel) (i_cons (i_var 0) i_nil)) (i_cons (i_ix o_ix (i_var 0) i_int) (i_cons (i_ix o_ix (i_var 0) (i_negD i_int)) (i_cons (i_cb (c_min rfl) G.f_min (by decide +kernel) (i_cons (i_var 1) i_nil)) (i_cons (i_cb (c_max rfl) G.f_max (by decide +kernel) (i_cons (i_var 1) i_nil)) (i_cons (i_cb (c_sum rfl) G.f_sum (by decide +kernel) (i_cons (i_var 1) i_nil)) i_nil))))))))))))
theorem fx__law_some_points : Fx P w K mg base "_law_some_points" 3 2 m__law_some_points := by
  obtain ⟨f, fd, F, g⟩ := G.d__law_some_points
  exact fx_of g F.kp (F.bindsN fun _ _ _ _ _ _ us hl => match us, hl with | [_, _, _], _ => rfl) rfl (fn_rule F sc__law_some_points fun cdv A outer s H E hr tk hp => (is_cons (is_set 3 sc__law_some_points.nd i_dic0)
  (is_cons (is_for hp (i_range1 G.f_range (i_cons (i_call1 ((fx__law_roll G).mono (by first | decide | omega)) hr tk (i_cons (i_var 0) (i_cons (i_bin o_add (i_var 1) i_int) i_nil)) (len_cons (len_cons len_nil))) i_nil)) (ig_name 4 sc__law_some_points.nd)
  (is_last (is_put (hu_of hr) (i_bin o_sub (i_call1 ((fx__law_roll G).mono (by first | decide | omega)) hr tk (i_cons (i_var 0) (i_cons i_int i_nil)) (len_cons (len_cons len_nil))) i_int) (i_var 3) (i_call1 ((fx__law_roll G).mono (by first | decide | omega)) hr tk (i_cons (i_var 0) (i_cons (i_var 2) i_nil)) (len_cons (len_cons len_nil))))))
  (is_last (is_ret (i_ct c_tuple G.f_tuple (by decide +kernel) (i_cons (i_frz (i_sortItems (i_var 3) G.f_sorted (hu_of hr))) i_nil)))))))
theorem ok_law {f : Addr} {fd : FuncData} (F : FunD K "law" "law" (defArgs (top 31)) (defBody (top 31)) (defScope (top 31)) [] [] f fd) : FnOk P w K mg base (L2.CX P w) 10 f fd ["script"] (spF K mg 1 m_law) :=
  fn_rule F sc_law fun cdv A outer s H E hr tk hp => (is_cons (is_set 1 sc_law.nd (i_callS ((fx__law_cup G).mono (by first | decide | omega)) hr tk (i_cons (i_var 0) i_nil) (len_cons len_nil)))
  (is_cons (is_for hp (i_range1 G.f_range (i_cons i_int i_nil)) (ig_name 2 sc_law.nd)
  (is_cons (is_par3 12 13 11 sc_law.nd (i_cons (i_call1 ((fx__law_some_points G).mono (by first | decide | omega)) hr tk (i_cons (i_var 1) (i_cons i_int (i_cons i_int i_nil))) (len_cons (len_cons (len_cons len_nil)))) (i_cons (i_tup i_nil) (i_cons i_int i_nil))) (by rfl))
  (is_cons (is_while 300 hp (i_cmpT (o_lt (hu_of hr)) (i_var 11) (i_cb c_len G.f_len (by decide +kernel) (i_cons (i_var 12) i_nil)) (nomark _))
  (is_cons (is_set 14 sc_law.nd (i_bin o_add i_int (i_call1 ((fx__law_roll G).mono (by first | decide | omega)) hr tk (i_cons (i_var 1) (i_cons i_int i_nil)) (len_cons (len_cons len_nil)))))
  (is_last (is_par 13 11 sc_law.nd (i_cons (i_bin o_add (i_bin o_add (i_var 13) (i_tup (i_cons (i_callP ((fx__law_cell G).mono (by first | decide | omega)) hr tk (i_cons (i_frz (i_ctL c_list G.f_list (by decide +kernel) (i_cons (i_slice (i_var 12) (i_part (i_var 11)) (i_part (i_bin o_add (i_var 11) (i_var 14)))) i_nil))) i_nil) (len_cons len_nil)) i_nil))) (i_bin o_mul (i_tup (i_cons i_non i_nil)) (i_call1 ((fx__law_roll G).mono (by first | decide | omega)) hr tk (i_cons (i_var 1) (i_cons i_int i_nil)) (len_cons (len_cons len_nil))))) (i_cons (i_bin o_add (i_var 11) (i_var 14)) i_nil)) (by rfl)))))
  (is_cons (is_if (i_bt (i_orT (i_notT (i_tru (i_callP ((fx__law_same G 8).mono (by decide)) hr tk (i_cons (i_callP ((fx_cells_joined G).mono (by first | decide | omega)) hr tk (i_cons (i_var 13) i_nil) (len_cons len_nil)) (i_cons (i_callP ((fx__law_cell G).mono (by first | decide | omega)) hr tk (i_cons (i_frz (i_ctL c_list G.f_list (by decide +kernel) (i_cons (i_var 12) i_nil))) i_nil) (len_cons len_nil)) i_nil)) (len_cons (len_cons len_nil))))) (i_or1 (i_cmpT (o_ne (hu_of hr)) (i_frz (i_lc (own := [(Str.ofString "cell", 32)]) sc_law.nd (i_itS (i_var 13)) (blkOk_by (by kernel_rfl)) (by decide) (fun _ _ _ _ _ => (ig_name 32 sc_law.nd)) (fun _ _ _ _ _ => (i_ts1 (i_bt (i_andT (i_cmpT o_notN (i_var 32) i_non (nomark _)) (i_and1 (i_cmpT o_notB (i_callP ((fx_is_cell G).mono (by first | decide | omega)) hr takes0 (i_cons (i_var 32) i_nil) (len_cons len_nil)) i_bl (nomark _))))))) (fun _ _ _ _ _ => (i_var 32)))) (i_frz (i_lst i_nil)) (nomark _)))))
  (is_last (is_ret i_bl))
  is_nil)
  (is_cons (is_set 4 sc_law.nd (i_frz (i_lst i_nil)))
  (is_cons (is_for hp (i_range1 G.f_range (i_cons (i_cb c_len G.f_len (by decide +kernel) (i_cons (i_var 13) i_nil)) i_nil)) (ig_name 5 sc_law.nd)
  (is_last (is_if (i_cmpT o_notN (i_ix o_ix (i_var 13) (i_var 5)) i_non (nomark _))
  (is_cons (is_set 21 sc_law.nd (i_frz (i_lst (i_cons (i_ix o_ix (i_ix o_ix (i_ix o_ix (i_var 13) (i_var 5)) i_int) i_int) (i_cons (i_ix o_ix (i_ix o_ix (i_var 13) (i_var 5)) i_int) (i_cons (i_ix o_ix (i_ix o_ix (i_var 13) (i_var 5)) i_int) (i_cons (i_ix o_ix (i_ix o_ix (i_ix o_ix (i_var 13) (i_var 5)) i_int) i_int) i_nil)))))))
  (is_last (is_set 4 sc_law.nd (i_frz (i_op2L o_addL (i_var 4) (i_frz (i_lc (own := [(Str.ofString "by", 33)]) sc_law.nd (i_range1 G.f_range (i_cons i_int i_nil)) (blkOk_by (by kernel_rfl)) (by decide) (fun _ _ _ _ _ => (ig_name 33 sc_law.nd)) (fun _ _ _ _ _ => (i_ts1 (i_bt (i_orT (i_cmpT (o_eq (hu_of hr)) (i_var 33) i_int (nomark _)) (i_or1 (i_cmpT (o_ne (hu_of hr)) (i_ix o_ix (i_var 21) (i_var 33)) (i_ix o_ix (i_var 21) (i_bin o_sub (i_var 33) i_int)) (nomark _))))))) (fun _ _ _ _ _ => (i_tup (i_cons (i_var 5) (i_cons (i_ix o_ix (i_var 21) (i_var 33)) i_nil)))))))))))
  is_nil)))
  (is_cons (is_if (i_notT (i_tru (i_callP ((fx__law_same G 8).mono (by decide)) hr tk (i_cons (i_callP ((fx_corners G).mono (by first | decide | omega)) hr tk (i_cons (i_var 13) i_nil) (len_cons len_nil)) (i_cons (i_ct c_tuple G.f_tuple (by decide +kernel) (i_cons (i_var 4) i_nil)) i_nil)) (len_cons (len_cons len_nil)))))
  (is_last (is_ret i_bl))
  is_nil)
  (is_cons (is_par 15 16 sc_law.nd (i_cons (i_call1 ((fx__law_roll G).mono (by first | decide | omega)) hr tk (i_cons (i_var 1) (i_cons i_int i_nil)) (len_cons (len_cons len_nil))) (i_cons (i_call1 ((fx__law_roll G).mono (by first | decide | omega)) hr tk (i_cons (i_var 1) (i_cons i_int i_nil)) (len_cons (len_cons len_nil))) i_nil)) (by rfl))
  (is_cons (is_asg (ig_tup (igs_cons (ig_name 14 sc_law.nd) (igs_cons (ig_name 17 sc_law.nd) (igs_cons (ig_name 18 sc_law.nd) (igs_cons (ig_name 19 sc_law.nd) igs_nil))))) (i_tup (i_cons (i_bin o_add i_int (i_call1 ((fx__law_roll G).mono (by first | decide | omega)) hr tk (i_cons (i_var 1) (i_cons i_int i_nil)) (len_cons (len_cons len_nil)))) (i_cons (i_call1 ((fx__law_roll G).mono (by first | decide | omega)) hr tk (i_cons (i_var 1) (i_cons i_int i_nil)) (len_cons (len_cons len_nil))) (i_cons (i_bin o_add i_int (i_call1 ((fx__law_roll G).mono (by first | decide | omega)) hr tk (i_cons (i_var 1) (i_cons i_int i_nil)) (len_cons (len_cons len_nil)))) (i_cons (i_call1 ((fx__law_roll G).mono (by first | decide | omega)) hr tk (i_cons (i_var 1) (i_cons i_int i_nil)) (len_cons (len_cons len_nil))) i_nil))))))
  (is_cons (is_asg (ig_tup (igs_cons (ig_name 20 sc_law.nd) (igs_cons (ig_name 21 sc_law.nd) igs_nil))) (i_tup (i_cons i_bl (i_cons (i_frz (i_lst (i_cons (i_tup i_nil) i_nil))) i_nil))))
  (is_cons (is_for hp (i_range1 G.f_range (i_cons (i_bin o_sub (i_var 14) i_int) i_nil)) (ig_name 6 sc_law.nd)
  (is_cons (is_set 22 sc_law.nd (i_frz (i_lst i_nil)))
  (is_cons (is_for hp (i_itS (i_var 21)) (ig_name 7 sc_law.nd)
  (is_last (is_set 22 sc_law.nd (i_frz (i_op2L o_addL (i_var 22) (i_frz (i_lc (own := [(Str.ofString "value", 34)]) sc_law.nd (i_range1 G.f_range (i_cons i_int i_nil)) (blkOk_by (by kernel_rfl)) (by decide) (fun _ _ _ _ _ => (ig_name 34 sc_law.nd)) (fun _ _ _ _ _ => i_ts0) (fun _ _ _ _ _ => (i_bin o_add (i_var 7) (i_tup (i_cons (i_var 34) i_nil)))))))))))
  (is_last (is_set 21 sc_law.nd (i_var 22))))))
  (is_cons (is_for hp (i_itS (i_var 21)) (ig_name 7 sc_law.nd)
  (is_cons (is_set 23 sc_law.nd (i_bin o_add (i_bin o_add (i_tup (i_cons (i_var 15) i_nil)) (i_var 7)) (i_tup (i_cons (i_var 16) i_nil))))
  (is_last (is_set 20 sc_law.nd (i_orV (i_var 20) (i_one (i_cmp (o_eq (hu_of hr)) (i_tup (i_cons (i_cb (c_min rfl) G.f_min (by decide +kernel) (i_cons (i_var 23) i_nil)) (i_cons (i_cb (c_max rfl) G.f_max (by decide +kernel) (i_cons (i_var 23) i_nil)) (i_cons (i_cb (c_sum rfl) G.f_sum (by decide +kernel) (i_cons (i_var 23) i_nil)) i_nil)))) (i_tup (i_cons (i_var 17) (i_cons (i_var 18) (i_cons (i_var 19) i_nil)))) (nomark _))))))))
  (is_cons (is_if (i_notT (i_tru (i_callP ((fx__law_same G 8).mono (by decide)) hr tk (i_cons (i_callP ((fx_is_cell G).mono (by first | decide | omega)) hr tk (i_cons (i_tup (i_cons (i_var 14) (i_cons (i_tup (i_cons i_int (i_cons (i_var 15) i_nil))) (i_cons (i_tup (i_cons i_int (i_cons (i_var 16) i_nil))) (i_cons (i_var 17) (i_cons (i_var 18) (i_cons (i_var 19) i_nil))))))) i_nil) (len_cons len_nil)) (i_cons (i_var 20) i_nil)) (len_cons (len_cons len_nil)))))
  (is_last (is_ret i_bl))
  is_nil)
  (is_cons (is_set 8 sc_law.nd (i_call1 ((fx__law_roll G).mono (by first | decide | omega)) hr tk (i_cons (i_var 1) (i_cons i_int i_nil)) (len_cons (len_cons len_nil))))
  (is_cons (is_set 9 sc_law.nd (i_bin o_add (i_var 8) (i_call1 ((fx__law_roll G).mono (by first | decide | omega)) hr tk (i_cons (i_var 1) (i_cons i_int i_nil)) (len_cons (len_cons len_nil)))))
  (is_cons (is_par 24 25 sc_law.nd (i_cons (i_callP ((fx_cover G).mono (by first | decide | omega)) hr tk (i_cons (i_var 8) (i_cons (i_var 9) i_nil)) (len_cons (len_cons len_nil))) (i_cons (i_var 8) i_nil)) (by rfl))
  (is_cons (is_for hp (i_itS (i_var 24)) (ig_tup (igs_cons (ig_name 26 sc_law.nd) (igs_cons (ig_name 27 sc_law.nd) igs_nil)))
  (is_cons (is_set 28 sc_law.nd i_int)
  (is_cons (is_for hp (i_range1 G.f_range (i_cons (i_var 26) i_nil)) (ig_name 29 sc_law.nd)
  (is_last (is_set 28 sc_law.nd (i_bin o_mul i_int (i_var 28)))))
  (is_cons (is_if (i_cmpT (o_ne (hu_of hr)) (i_bin o_mul (i_var 27) (i_var 28)) (i_var 25) (nomark _))
  (is_last (is_ret i_bl))
  is_nil)
  (is_last (is_set 25 sc_law.nd (i_bin o_add (i_var 25) (i_var 28))))))))
  (is_cons (is_set 10 sc_law.nd (i_new (i_op2L o_mulL (i_frz (i_lst (i_cons i_int i_nil))) (i_bin o_add (i_bin o_sub (i_var 9) (i_var 8)) i_int))))
  (is_cons (is_for hp (i_range3 G.f_range (i_cons (i_var 9) (i_cons (i_bin o_sub (i_var 8) i_int) (i_cons (i_negD i_int) i_nil)))) (ig_name 11 sc_law.nd)
  (is_cons (is_par 30 28 sc_law.nd (i_cons (i_frz (i_lst i_nil)) (i_cons i_int i_nil)) (by rfl))
  (is_cons (is_while 300 hp (i_cmpT o_le (i_var 28) (i_bin o_add (i_bin o_sub (i_var 9) (i_var 11)) i_int) (nomark _))
  (is_last (is_par 30 28 sc_law.nd (i_cons (i_bin o_add (i_var 30) (i_ifE (i_cmpT (o_eq (hu_of hr)) (i_bin o_mod (i_ct c_int G.f_int (by decide +kernel) (i_cons (i_var 11) i_nil)) (i_var 28)) i_int (nomark _)) (i_frz (i_lst (i_cons (i_ix o_ix (i_var 10) (i_bin o_sub (i_bin o_add (i_var 11) (i_var 28)) (i_var 8))) i_nil))) (i_frz (i_lst i_nil)))) (i_cons (i_bin o_mul i_int (i_var 28)) i_nil)) (by rfl))))
  (is_last (is_put (hu_of hr) (i_bin o_add i_int (i_cb (c_min rfl) G.f_min (by decide +kernel) (i_cons (i_var 30) i_nil))) (i_var 10) (i_bin o_sub (i_var 11) (i_var 8)))))))
  (is_last (is_if (i_bt (i_orT (i_cmpT (o_ne (hu_of hr)) (i_var 25) (i_bin o_add (i_var 9) i_int) (nomark _)) (i_or1 (i_cmpT (o_ne (hu_of hr)) (i_cb c_len G.f_len (by decide +kernel) (i_cons (i_var 24) i_nil)) (i_ix o_ix (i_var 10) i_int) (nomark _)))))
  (is_last (is_ret i_bl))
  is_nil)))))))))))))))))))))
  (is_cons (is_set 3 sc_law.nd (i_frz (i_lst (i_cons i_non (i_cons (i_tup i_nil) (i_cons (i_tup (i_cons i_int (i_cons (i_tup (i_cons i_int (i_cons i_int i_nil))) (i_cons (i_tup (i_cons i_int (i_cons i_int i_nil))) (i_cons i_int (i_cons i_int (i_cons i_int i_nil))))))) (i_cons (i_tup (i_cons i_int (i_cons (i_tup (i_cons i_int (i_cons i_int i_nil))) (i_cons (i_tup (i_cons i_int (i_cons i_int i_nil))) (i_cons i_int (i_cons i_int (i_cons i_int i_nil))))))) (i_cons (i_tup (i_cons i_int (i_cons (i_tup (i_cons i_int (i_cons i_int i_nil))) (i_cons (i_tup (i_cons i_int (i_cons i_int i_nil))) (i_cons i_int (i_cons i_int (i_cons i_int i_nil))))))) (i_cons (i_tup (i_cons i_int (i_cons (i_tup (i_cons i_int (i_cons i_int i_nil))) (i_cons (i_tup (i_cons i_int (i_cons i_int i_nil))) (i_cons i_int (i_cons i_int (i_cons i_int i_nil))))))) (i_cons (i_tup (i_cons i_int (i_cons (i_tup (i_cons i_int (i_cons i_int i_nil))) (i_cons (i_tup (i_cons i_int (i_cons i_int i_nil))) (i_cons i_int (i_cons i_int (i_cons i_int i_nil))))))) i_nil))))))))))
  (is_cons (is_set 3 sc_law.nd (i_frz (i_op2L o_addL (i_var 3) (i_frz (i_lst (i_cons (i_tup (i_cons i_int (i_cons (i_tup (i_cons i_int (i_cons i_int i_nil))) (i_cons (i_tup (i_cons i_int (i_cons i_int i_nil))) (i_cons i_int (i_cons i_int (i_cons i_int i_nil))))))) (i_cons (i_tup (i_cons i_bl (i_cons (i_tup (i_cons i_int (i_cons i_int i_nil))) (i_cons (i_tup (i_cons i_int (i_cons i_int i_nil))) (i_cons i_int (i_cons i_int (i_cons i_int i_nil))))))) (i_cons (i_tup (i_cons i_int (i_cons (i_tup (i_cons i_int (i_cons i_bl i_nil))) (i_cons (i_tup (i_cons i_int (i_cons i_bl i_nil))) (i_cons i_int (i_cons i_int (i_cons i_int i_nil))))))) (i_cons (i_frz (i_lst (i_cons i_int (i_cons (i_tup (i_cons i_int (i_cons i_int i_nil))) (i_cons (i_tup (i_cons i_int (i_cons i_int i_nil))) (i_cons i_int (i_cons i_int (i_cons i_int i_nil)))))))) (i_cons (i_tup (i_cons i_int (i_cons (i_tup (i_cons i_int (i_cons i_int i_nil))) (i_cons (i_tup (i_cons i_int (i_cons i_int i_nil))) (i_cons i_int (i_cons i_int (i_cons i_int i_nil))))))) i_nil))))))))))
  (is_last (is_ret (i_andV (i_cmp (o_eq (hu_of hr)) (i_frz (i_lc (own := [(Str.ofString "odd", 31)]) sc_law.nd (i_itS (i_var 3)) (blkOk_by (by kernel_rfl)) (by decide) (fun _ _ _ _ _ => (ig_name 31 sc_law.nd)) (fun _ _ _ _ _ => (i_ts1 (i_cmpT o_notB (i_callP ((fx_is_cell G).mono (by first | decide | omega)) hr takes0 (i_cons (i_var 31) i_nil) (len_cons len_nil)) i_bl (nomark _)))) (fun _ _ _ _ _ => (i_var 31)))) (i_frz (i_lst i_nil)) (nomark _)) (i_andV (i_cmp o_isB (i_callP ((fx_is_cell G).mono (by first | decide | omega)) hr tk (i_cons (i_tup (i_cons i_int (i_cons (i_tup (i_cons i_int (i_cons i_int i_nil))) (i_cons (i_tup (i_cons i_int (i_cons i_int i_nil))) (i_cons i_int (i_cons i_int (i_cons i_int i_nil))))))) i_nil) (len_cons len_nil)) i_bl (nomark _)) (i_one (i_callP ((fx__law_same G 8).mono (by decide)) hr tk (i_cons (i_tup (i_cons (i_callP ((fx_cells_joined G).mono (by first | decide | omega)) hr tk (i_cons (i_tup i_nil) i_nil) (len_cons len_nil)) (i_cons (i_callP ((fx_corners G).mono (by first | decide | omega)) hr tk (i_cons (i_tup (i_cons i_non i_nil)) i_nil) (len_cons len_nil)) i_nil))) (i_cons (i_tup (i_cons i_non (i_cons (i_tup i_nil) i_nil))) i_nil)) (len_cons (len_cons len_nil))))))))))))
end
/-! the head -/
def dd_is_whole : He.DefD := ⟨("is_whole", none), "is_whole", "is_whole", defArgs (top 7), defBody (top 7), defScope (top 7), [], []⟩
def dd_is_tuple_of : He.DefD := ⟨("is_tuple_of", none), "is_tuple_of", "is_tuple_of", defArgs (top 8), defBody (top 8), defScope (top 8), [], []⟩
def dd_joined : He.DefD := ⟨("joined", none), "joined", "joined", defArgs (top 13), defBody (top 13), defScope (top 13), [], []⟩
def dd_joined_all : He.DefD := ⟨("joined_all", none), "joined_all", "joined_all", defArgs (top 14), defBody (top 14), defScope (top 14), [], []⟩
def dd_fits_point : He.DefD := ⟨("fits_point", none), "fits_point", "fits_point", defArgs (top 15), defBody (top 15), defScope (top 15), [], []⟩
def dd_fits_rest : He.DefD := ⟨("fits_rest", none), "fits_rest", "fits_rest", defArgs (top 17), defBody (top 17), defScope (top 17), [], []⟩
def dd_fits_cell : He.DefD := ⟨("fits_cell", none), "fits_cell", "fits_cell", defArgs (top 16), defBody (top 16), defScope (top 16), [], []⟩
def dd_power : He.DefD := ⟨("power", none), "power", "power", defArgs (top 19), defBody (top 19), defScope (top 19), [], []⟩
def dd_cover_in : He.DefD := ⟨("cover_in", none), "cover_in", "cover_in", defArgs (top 18), defBody (top 18), defScope (top 18), [], []⟩
def dd_is_cell : He.DefD := ⟨("is_cell", none), "is_cell", "is_cell", defArgs (top 20), defBody (top 20), defScope (top 20), [], []⟩
def dd_cells_joined : He.DefD := ⟨("cells_joined", none), "cells_joined", "cells_joined", defArgs (top 21), defBody (top 21), defScope (top 21), [], []⟩
def dd_cover : He.DefD := ⟨("cover", none), "cover", "cover", defArgs (top 22), defBody (top 22), defScope (top 22), [], []⟩
def dd_corners : He.DefD := ⟨("corners", none), "corners", "corners", defArgs (top 23), defBody (top 23), defScope (top 23), [], []⟩
def dd__law_cup : He.DefD := ⟨("_law_cup", none), "_law_cup", "_law_cup", defArgs (top 25), defBody (top 25), defScope (top 25), [], []⟩
def dd__law_roll : He.DefD := ⟨("_law_roll", none), "_law_roll", "_law_roll", defArgs (top 26), defBody (top 26), defScope (top 26), [], []⟩
def dd__law_some : He.DefD := ⟨("_law_some", none), "_law_some", "_law_some", defArgs (top 27), defBody (top 27), defScope (top 27), [], []⟩
def dd__law_same : He.DefD := ⟨("_law_same", none), "_law_same", "_law_same", defArgs (top 28), defBody (top 28), defScope (top 28), [], []⟩
def dd__law_cell : He.DefD := ⟨("_law_cell", none), "_law_cell", "_law_cell", defArgs (top 29), defBody (top 29), defScope (top 29), [], []⟩
def dd__law_some_points : He.DefD := ⟨("_law_some_points", none), "_law_some_points", "_law_some_points", defArgs (top 30), defBody (top 30), defScope (top 30), [], []⟩
def dd_law : He.DefD := ⟨("law", none), "law", "law", defArgs (top 31), defBody (top 31), defScope (top 31), [], []⟩
def fnl : List He.DefD := [dd_is_whole, dd_is_tuple_of, dd_joined, dd_joined_all, dd_fits_point, dd_fits_rest, dd_fits_cell, dd_power, dd_cover_in, dd_is_cell, dd_cells_joined, dd_cover, dd_corners, dd__law_cup, dd__law_roll, dd__law_some, dd__law_same, dd__law_cell, dd__law_some_points, dd_law]
def fa : List He.Fa := [.glo "is_whole", .glo "is_tuple_of", .glo "joined", .glo "joined_all", .glo "fits_point", .glo "fits_rest", .glo "fits_cell", .glo "power", .glo "cover_in", .glo "is_cell", .glo "cells_joined", .glo "cover", .glo "corners", .glo "_law_cup", .glo "_law_roll", .glo "_law_some", .glo "_law_same", .glo "_law_cell", .glo "_law_some_points", .glo "law", .free "abs", .free "all", .free "bool", .free "enumerate", .free "int", .free "isinstance", .free "len", .free "list", .free "max", .free "min", .free "range", .free "set", .free "sorted", .free "str", .free "sum", .free "tuple", .free "zip", .int "TIME" 1000000000000000, .int "VALUE" 1000000000000, .int "LEVELS" 51, .int "COLUMNS" 256, .int "CELLS" 4096, .glo "SeriesError", .exc "SeriesError", .glo "InvalidNumber", .exc "InvalidNumber", .glo "InvalidView", .exc "InvalidView"]
def loose : List Str := (["__name__", "SeriesError", "InvalidNumber", "InvalidView", "TIME", "VALUE", "is_whole", "is_tuple_of", "LEVELS", "COLUMNS", "CELLS", "joined", "joined_all", "fits_point", "fits_cell", "fits_rest", "cover_in", "power", "is_cell", "cells_joined", "cover", "corners", "_law_cup", "_law_roll", "_law_some", "_law_same", "_law_cell", "_law_some_points"] : List Str)
abbrev RowR : PySem.W.OpenRow := PySem.W.OpenLaw.row PySem.Challenge.rw_serieskept_k95_whole_cells_joined_and_co
abbrev hk : PySem.W.Hook := He.hookD 4 fa fnl
def ob (s : PySem.W.SharedT) : He.AlD := He.obsDG 4 fa fnl (HandSHeadRun.getT s)
theorem ob_eq (s : PySem.W.SharedT) : ob s = hk.obs s.abs := He.obsDG_eq (HandSHeadRun.getT_eq s)
theorem run (w : World) : HandSHeadRun.RunEq RowR (PySem.W.view RowR.prog [31]) hk ob 8000 loose w := by
  intro os
  kernel_rfl
theorem gs {P : Program} {w : World} {K : PySem.W.Frag} {h base : Heap} {mg : Str → Option Value} (X : K.In h) (Gn : h.Ns mainGlobals mg) (c : He.SaysD fa fnl K) : Gs P w K mg base where
  d_is_whole := by
    obtain ⟨fd, F⟩ := c.def_ 0 (d := dd_is_whole) rfl
    exact ⟨_, fd, F, He.glo_ok X Gn (c.fact 0 (f := .glo "is_whole") rfl)⟩
  d_is_tuple_of := by
    obtain ⟨fd, F⟩ := c.def_ 1 (d := dd_is_tuple_of) rfl
    exact ⟨_, fd, F, He.glo_ok X Gn (c.fact 1 (f := .glo "is_tuple_of") rfl)⟩
  d_joined := by
    obtain ⟨fd, F⟩ := c.def_ 2 (d := dd_joined) rfl
    exact ⟨_, fd, F, He.glo_ok X Gn (c.fact 2 (f := .glo "joined") rfl)⟩
  d_joined_all := by
    obtain ⟨fd, F⟩ := c.def_ 3 (d := dd_joined_all) rfl
    exact ⟨_, fd, F, He.glo_ok X Gn (c.fact 3 (f := .glo "joined_all") rfl)⟩
  d_fits_point := by
    obtain ⟨fd, F⟩ := c.def_ 4 (d := dd_fits_point) rfl
    exact ⟨_, fd, F, He.glo_ok X Gn (c.fact 4 (f := .glo "fits_point") rfl)⟩
  d_fits_rest := by
    obtain ⟨fd, F⟩ := c.def_ 5 (d := dd_fits_rest) rfl
    exact ⟨_, fd, F, He.glo_ok X Gn (c.fact 5 (f := .glo "fits_rest") rfl)⟩
  d_fits_cell := by
    obtain ⟨fd, F⟩ := c.def_ 6 (d := dd_fits_cell) rfl
    exact ⟨_, fd, F, He.glo_ok X Gn (c.fact 6 (f := .glo "fits_cell") rfl)⟩
  d_power := by
    obtain ⟨fd, F⟩ := c.def_ 7 (d := dd_power) rfl
    exact ⟨_, fd, F, He.glo_ok X Gn (c.fact 7 (f := .glo "power") rfl)⟩
  d_cover_in := by
    obtain ⟨fd, F⟩ := c.def_ 8 (d := dd_cover_in) rfl
    exact ⟨_, fd, F, He.glo_ok X Gn (c.fact 8 (f := .glo "cover_in") rfl)⟩
  d_is_cell := by
    obtain ⟨fd, F⟩ := c.def_ 9 (d := dd_is_cell) rfl
    exact ⟨_, fd, F, He.glo_ok X Gn (c.fact 9 (f := .glo "is_cell") rfl)⟩
  d_cells_joined := by
    obtain ⟨fd, F⟩ := c.def_ 10 (d := dd_cells_joined) rfl
    exact ⟨_, fd, F, He.glo_ok X Gn (c.fact 10 (f := .glo "cells_joined") rfl)⟩
  d_cover := by
    obtain ⟨fd, F⟩ := c.def_ 11 (d := dd_cover) rfl
    exact ⟨_, fd, F, He.glo_ok X Gn (c.fact 11 (f := .glo "cover") rfl)⟩
  d_corners := by
    obtain ⟨fd, F⟩ := c.def_ 12 (d := dd_corners) rfl
    exact ⟨_, fd, F, He.glo_ok X Gn (c.fact 12 (f := .glo "corners") rfl)⟩
  d__law_cup := by
    obtain ⟨fd, F⟩ := c.def_ 13 (d := dd__law_cup) rfl
    exact ⟨_, fd, F, He.glo_ok X Gn (c.fact 13 (f := .glo "_law_cup") rfl)⟩
  d__law_roll := by
    obtain ⟨fd, F⟩ := c.def_ 14 (d := dd__law_roll) rfl
    exact ⟨_, fd, F, He.glo_ok X Gn (c.fact 14 (f := .glo "_law_roll") rfl)⟩
  d__law_some := by
    obtain ⟨fd, F⟩ := c.def_ 15 (d := dd__law_some) rfl
    exact ⟨_, fd, F, He.glo_ok X Gn (c.fact 15 (f := .glo "_law_some") rfl)⟩
  d__law_same := by
    obtain ⟨fd, F⟩ := c.def_ 16 (d := dd__law_same) rfl
    exact ⟨_, fd, F, He.glo_ok X Gn (c.fact 16 (f := .glo "_law_same") rfl)⟩
  d__law_cell := by
    obtain ⟨fd, F⟩ := c.def_ 17 (d := dd__law_cell) rfl
    exact ⟨_, fd, F, He.glo_ok X Gn (c.fact 17 (f := .glo "_law_cell") rfl)⟩
  d__law_some_points := by
    obtain ⟨fd, F⟩ := c.def_ 18 (d := dd__law_some_points) rfl
    exact ⟨_, fd, F, He.glo_ok X Gn (c.fact 18 (f := .glo "_law_some_points") rfl)⟩
  d_law := by
    obtain ⟨fd, F⟩ := c.def_ 19 (d := dd_law) rfl
    exact ⟨_, fd, F, He.glo_ok X Gn (c.fact 19 (f := .glo "law") rfl)⟩
  f_abs := He.free_ok X Gn (c.fact 20 (f := .free "abs") rfl)
  f_all := He.free_ok X Gn (c.fact 21 (f := .free "all") rfl)
  f_bool := He.free_ok X Gn (c.fact 22 (f := .free "bool") rfl)
  f_enumerate := He.free_ok X Gn (c.fact 23 (f := .free "enumerate") rfl)
  f_int := He.free_ok X Gn (c.fact 24 (f := .free "int") rfl)
  f_isinstance := He.free_ok X Gn (c.fact 25 (f := .free "isinstance") rfl)
  f_len := He.free_ok X Gn (c.fact 26 (f := .free "len") rfl)
  f_list := He.free_ok X Gn (c.fact 27 (f := .free "list") rfl)
  f_max := He.free_ok X Gn (c.fact 28 (f := .free "max") rfl)
  f_min := He.free_ok X Gn (c.fact 29 (f := .free "min") rfl)
  f_range := He.free_ok X Gn (c.fact 30 (f := .free "range") rfl)
  f_set := He.free_ok X Gn (c.fact 31 (f := .free "set") rfl)
  f_sorted := He.free_ok X Gn (c.fact 32 (f := .free "sorted") rfl)
  f_str := He.free_ok X Gn (c.fact 33 (f := .free "str") rfl)
  f_sum := He.free_ok X Gn (c.fact 34 (f := .free "sum") rfl)
  f_tuple := He.free_ok X Gn (c.fact 35 (f := .free "tuple") rfl)
  f_zip := He.free_ok X Gn (c.fact 36 (f := .free "zip") rfl)
  i_TIME := He.int_ok X Gn (c.fact 37 (f := .int "TIME" 1000000000000000) rfl)
  i_VALUE := He.int_ok X Gn (c.fact 38 (f := .int "VALUE" 1000000000000) rfl)
  i_LEVELS := He.int_ok X Gn (c.fact 39 (f := .int "LEVELS" 51) rfl)
  i_COLUMNS := He.int_ok X Gn (c.fact 40 (f := .int "COLUMNS" 256) rfl)
  i_CELLS := He.int_ok X Gn (c.fact 41 (f := .int "CELLS" 4096) rfl)
  e_SeriesError := by
    obtain ⟨h1, h2, h3, h4⟩ := He.exc_ok (c.fact 43 (f := .exc "SeriesError") rfl)
    exact ⟨_, He.glo_ok X Gn (c.fact 42 (f := .glo "SeriesError") rfl), h1, h2, h3, h4⟩
  e_InvalidNumber := by
    obtain ⟨h1, h2, h3, h4⟩ := He.exc_ok (c.fact 45 (f := .exc "InvalidNumber") rfl)
    exact ⟨_, He.glo_ok X Gn (c.fact 44 (f := .glo "InvalidNumber") rfl), h1, h2, h3, h4⟩
  e_InvalidView := by
    obtain ⟨h1, h2, h3, h4⟩ := He.exc_ok (c.fact 47 (f := .exc "InvalidView") rfl)
    exact ⟨_, He.glo_ok X Gn (c.fact 46 (f := .glo "InvalidView") rfl), h1, h2, h3, h4⟩
end G95
open PySem PySem.W PySem.Calls PyProof.Rows in
theorem G95.holds_of (hlaw : ∀ ns : List Int, ns.length ≤ 63 → ∃ S, G95.m_law [.d (.list (ns.map .int))] [] = .ok (.d (.bool true)) S) : PySem.Challenge.rw_serieskept_k95_whole_cells_joined_and_co.Holds := by
  w_on; o_law
  refine HandSHeadRun.head_any (r := OpenLaw.row PySem.Challenge.rw_serieskept_k95_whole_cells_joined_and_co) (q := view (OpenLaw.row PySem.Challenge.rw_serieskept_k95_whole_cells_joined_and_co).prog [31]) (H := G95.hk) (ob := G95.ob) (M := 8000) (loose := G95.loose) (d := HandSHeadRun.topDef (OpenLaw.row PySem.Challenge.rw_serieskept_k95_whole_cells_joined_and_co).prog 31) (kwd := []) G95.ob_eq
    (by kernel_rfl) (fun s => by kernel_rfl) G95.run (by kernel_rfl) (by kernel_rfl) (by kernel_rfl) (by rfl) (by first | assumption | decide +kernel) (by decide +kernel) ⟨rfl, rfl, rfl, rfl, rfl, by decide +kernel⟩ ?hw ?hc
  case hw => w_witness2
  case hc =>
    refine Pi.walk_ofW (l := PySem.Challenge.rw_serieskept_k95_whole_cells_joined_and_co) (n := 63) (k := 10) (x := "script") rfl (by decide) (by kernel_rfl) ⟨rfl, by decide, by decide⟩ ?F
    intro w mg fa h Y Gn hmg0
    obtain ⟨K, KX, c⟩ := Y
    have hmg : mg ("law" : PySem.Str) = some (.ref fa) := by
      have e : (HandSHeadRun.topDef (OpenLaw.row PySem.Challenge.rw_serieskept_k95_whole_cells_joined_and_co).prog 31).name = ("law" : PySem.Str) := by kernel_rfl
      rw [← e]
      exact hmg0
    obtain ⟨fd, F⟩ := c.def_ 19 (d := G95.dd_law) rfl
    have e := hmg.symm.trans (He.glo_ok KX Gn (c.fact 19 (f := .glo "law") rfl))
    cases e
    have b := L2.FunD.bindsA (ps := ["script"]) F fun _ _ _ _ _ _ us hl => match us, hl with | [_], _ => rfl
    refine ⟨K, fd, Pi.spF K mg 1 G95.m_law, KX, fun s v => b s [v] rfl, fun H a ns hl hO hS => ?_, fun base hK hN => ?_⟩
    · obtain ⟨S, hS2⟩ := hlaw ns hl
      exact Pi.sp_law hO hS hS2
    · exact G95.ok_law (G95.gs (P := (PySem.Challenge.rw_serieskept_k95_whole_cells_joined_and_co).prog) (w := w) (base := base) KX Gn c) F

namespace G95
open PySem PySem.Spec PyProof.Rows L2 Pi
/-! named pieces -/
def i_joined_1 : SM := (mIf (mOrT (mB (mOp2 isND (mVar 0) (mD .none))) (mB (mOp2 isND (mVar 1) (mD .none))))
  (mRet (mIfE (mB (mOp2 isND (mVar 0) (mD .none))) (mVar 1) (mVar 0)))
  mSkip)
theorem m_joined_eq : m_joined = fnR 4 ((mSeq i_joined_1
  (mSeq (mPar [2, 3] (mCons (mCB minD (mCons (mOp2 ixD (mVar 0) (mD (.int 3))) (mCons (mOp2 ixD (mVar 1) (mD (.int 3))) mNil))) (mCons (mCB maxD (mCons (mOp2 ixD (mVar 0) (mD (.int 4))) (mCons (mOp2 ixD (mVar 1) (mD (.int 4))) mNil))) mNil)))
  (mRet (mTup (mCons (mOp2 addD (mOp2 ixD (mVar 0) (mD (.int 0))) (mOp2 ixD (mVar 1) (mD (.int 0)))) (mCons (mOp2 ixD (mVar 0) (mD (.int 1))) (mCons (mOp2 ixD (mVar 1) (mD (.int 2))) (mCons (mVar 2) (mCons (mVar 3) (mCons (mOp2 addD (mOp2 ixD (mVar 0) (mD (.int 5))) (mOp2 ixD (mVar 1) (mD (.int 5)))) mNil))))))))))) := rfl
def b_joined_all_1 : SM := (mAsg (gN 1) (mCallP m_joined (mCons (mVar 1) (mCons (mVar 2) mNil))))
def f_joined_all_1 : SM := (mFor (mItS (mVar 0)) (gN 2)
  b_joined_all_1)
theorem m_joined_all_eq : m_joined_all = fnR 3 ((mSeq (mAsg (gN 1) (mD .none))
  (mSeq f_joined_all_1
  (mRet (mVar 1))))) := rfl
def i_fits_cell_5 : SM := (mIf (mOrT (mNotT (mTruth (mCallP m_is_tuple_of (mCons (mVar 0) (mCons (mD (.int 6)) (mCons (mD (.int 6)) mNil)))))) (mNotT (mTruth (mCallP m_is_whole (mCons (mOp2 ixD (mVar 0) (mD (.int 0))) (mCons (mD (.int 1)) (mCons (mD (.int 4096)) mNil)))))))
  (mRet (mD (.bool false)))
  mSkip)
def i_fits_cell_4 : SM := (mIf (mOrT (mNotT (mTruth (mCallP m_fits_point (mCons (mOp2 ixD (mVar 0) (mD (.int 1))) mNil)))) (mOrT (mNotT (mTruth (mCallP m_fits_point (mCons (mOp2 ixD (mVar 0) (mD (.int 2))) mNil)))) (mB (mOp2 ltD (mOp2 subD (mOp2 ixD (mOp2 ixD (mVar 0) (mD (.int 2))) (mD (.int 0))) (mOp2 ixD (mOp2 ixD (mVar 0) (mD (.int 1))) (mD (.int 0)))) (mOp2 subD (mOp2 ixD (mVar 0) (mD (.int 0))) (mD (.int 1)))))))
  (mRet (mD (.bool false)))
  mSkip)
def i_fits_cell_3 : SM := (mIf (mNotT (mTruth (mCB allD1 (mCons (mFrz (mLc (mItS (mSlice (mVar 0) (mPart (mD (.int 3))) mNoP)) [8] (gN 8) mYes (mAndV (mOp1 (isT .int) (mVar 8)) (mNotV (mOp1 (isT .bool) (mVar 8)))))) mNil))))
  (mRet (mD (.bool false)))
  mSkip)
def i_fits_cell_2 : SM := (mIf (mOrT (mNotT (mB (mChain leD leD (mOp1 negD (mD (.int 1000000000000))) (mVar 5) (mCB minD (mCons (mVar 1) mNil))))) (mNotT (mB (mChain leD leD (mCB maxD (mCons (mVar 1) mNil)) (mVar 6) (mD (.int 1000000000000))))))
  (mRet (mD (.bool false)))
  mSkip)
def i_fits_cell_1 : SM := (mIf (mB (mOp2 eqD (mVar 2) (mD (.int 1))))
  (mRet (mAndV (mOp2 eqD (mVar 3) (mVar 4)) (mOp2 eqD (mTup (mCons (mVar 5) (mCons (mVar 6) (mCons (mVar 7) mNil)))) (mOp2 mulD (mSlice (mVar 1) mNoP (mPart (mD (.int 1)))) (mD (.int 3))))))
  mSkip)
theorem m_fits_cell_eq : m_fits_cell = fnR 9 ((mSeq i_fits_cell_5
  (mSeq i_fits_cell_4
  (mSeq i_fits_cell_3
  (mSeq (mAsg (gT [(gN 2), (gN 3), (gN 4), (gN 5), (gN 6), (gN 7)]) (mVar 0))
  (mSeq (mAsg (gN 1) (mTup (mCons (mOp2 ixD (mVar 3) (mD (.int 1))) (mCons (mOp2 ixD (mVar 4) (mD (.int 1))) mNil))))
  (mSeq i_fits_cell_2
  (mSeq i_fits_cell_1
  (mRet (mCallP m_fits_rest (mCons (mVar 2) (mCons (mVar 1) (mCons (mVar 5) (mCons (mVar 6) (mCons (mVar 7) mNil))))))))))))))) := rfl
def b_power_1 : SM := (mAsg (gN 1) (mOp2 mulD (mD (.int 2)) (mVar 1)))
def f_power_1 : SM := (mFor (mItA range1 (mCons (mVar 0) mNil)) (gN 2)
  b_power_1)
theorem m_power_eq : m_power = fnR 3 ((mSeq (mAsg (gN 1) (mD (.int 1)))
  (mSeq f_power_1
  (mRet (mVar 1))))) := rfl
def c_cover_in_1 : TM := (mB (mOp2 leD (mVar 3) (mVar 1)))
def c_cover_in_2 : TM := (mAndT (mB (mOp2 ltD (mOp2 addD (mVar 4) (mD (.int 1))) (mD (.int 51)))) (mAndT (mB (mOp2 eqD (mOp2 modD (mVar 3) (mCallP m_power (mCons (mOp2 addD (mVar 4) (mD (.int 1))) mNil))) (mD (.int 0)))) (mB (mOp2 leD (mOp2 subD (mOp2 addD (mVar 3) (mCallP m_power (mCons (mOp2 addD (mVar 4) (mD (.int 1))) mNil))) (mD (.int 1))) (mVar 1)))))
def b_cover_in_2 : SM := (mAsg (gN 4) (mOp2 addD (mVar 4) (mD (.int 1))))
def w_cover_in_2 : SM := (mWhile 300 c_cover_in_2
  b_cover_in_2)
def b_cover_in_1 : SM := (mSeq (mAsg (gN 4) (mD (.int 0)))
  (mSeq w_cover_in_2
  (mSeq (mExpr (mApp (mVar 2) (mTup (mCons (mVar 4) (mCons (mOp2 divD (mVar 3) (mCallP m_power (mCons (mVar 4) mNil))) mNil)))))
  (mAsg (gN 3) (mOp2 addD (mVar 3) (mCallP m_power (mCons (mVar 4) mNil)))))))
def w_cover_in_1 : SM := (mWhile 300 c_cover_in_1
  b_cover_in_1)
theorem m_cover_in_eq : m_cover_in = fnR 5 ((mSeq (mPar [2, 3] (mCons (mNew (mDisp mNil)) (mCons (mVar 0) mNil)))
  (mSeq w_cover_in_1
  (mRet (mVar 2))))) := rfl
def i_cells_joined_2 : SM := (mIf (mOrT (mNotT (mTruth (mCallP m_is_tuple_of (mCons (mVar 0) (mCons (mD (.int 0)) (mCons (mD (.int 256)) mNil)))))) (mNotT (mTruth (mCB allD1 (mCons (mFrz (mLc (mItS (mVar 0)) [2] (gN 2) mYes (mOrV (mOp2 isND (mVar 2) (mD .none)) (mCallP m_fits_cell (mCons (mVar 2) mNil))))) mNil)))))
  (mRaise "InvalidView")
  mSkip)
def i_cells_joined_1 : SM := (mIf (mNotT (mTruth (mCB allD1 (mCons (mFrz (mLc (mItA zip2 (mCons (mVar 1) (mCons (mSlice (mVar 1) (mPart (mD (.int 1))) mNoP) mNil))) [3, 4] (gT [(gN 3), (gN 4)]) mYes (mOp2 ltD (mOp2 ixD (mOp2 ixD (mVar 3) (mD (.int 2))) (mD (.int 0))) (mOp2 ixD (mOp2 ixD (mVar 4) (mD (.int 1))) (mD (.int 0)))))) mNil))))
  (mRaise "InvalidView")
  mSkip)
theorem m_cells_joined_eq : m_cells_joined = fnR 5 ((mSeq i_cells_joined_2
  (mSeq (mSetL 1 (mLc (mItS (mVar 0)) [2] (gN 2) (mB (mOp2 notND (mVar 2) (mD .none))) (mVar 2)))
  (mSeq i_cells_joined_1
  (mRet (mCallP m_joined_all (mCons (mVar 1) mNil))))))) := rfl
def i_cover_1 : SM := (mIf (mOrT (mNotT (mTruth (mCallP m_is_whole (mCons (mVar 0) (mCons (mD (.int 0)) (mCons (mD (.int 1000000000000000)) mNil)))))) (mNotT (mTruth (mCallP m_is_whole (mCons (mVar 1) (mCons (mVar 0) (mCons (mD (.int 1000000000000000)) mNil)))))))
  (mRaise "InvalidNumber")
  mSkip)
theorem m_cover_eq : m_cover = fnR 2 ((mSeq i_cover_1
  (mRet (mCB tupleD (mCons (mCallS m_cover_in (mCons (mVar 0) (mCons (mVar 1) mNil))) mNil))))) := rfl
def i_corners_3 : SM := (mIf (mOrT (mNotT (mTruth (mCallP m_is_tuple_of (mCons (mVar 0) (mCons (mD (.int 0)) (mCons (mD (.int 256)) mNil)))))) (mNotT (mTruth (mCB allD1 (mCons (mFrz (mLc (mItS (mVar 0)) [3] (gN 3) mYes (mOrV (mOp2 isND (mVar 3) (mD .none)) (mCallP m_fits_cell (mCons (mVar 3) mNil))))) mNil)))))
  (mRaise "InvalidView")
  mSkip)
def i_corners_2 : SM := (mIf (mB (mOp2 notND (mVar 3) (mD .none)))
  (mSeq (mAsg (gN 4) (mFrz (mLc (mItS (mTup (mCons (mOp2 ixD (mOp2 ixD (mVar 3) (mD (.int 1))) (mD (.int 1))) (mCons (mOp2 ixD (mVar 3) (mD (.int 3))) (mCons (mOp2 ixD (mVar 3) (mD (.int 4))) (mCons (mOp2 ixD (mOp2 ixD (mVar 3) (mD (.int 2))) (mD (.int 1))) mNil)))))) [5] (gN 5) mYes (mTup (mCons (mVar 2) (mCons (mVar 5) mNil))))))
  (mExt 1 (mLc (mItA enum1 (mCons (mVar 4) mNil)) [6, 7] (gT [(gN 6), (gN 7)]) (mOrT (mB (mOp2 eqD (mVar 6) (mD (.int 0)))) (mB (mOp2 neD (mVar 7) (mOp2 ixD (mVar 4) (mOp2 subD (mVar 6) (mD (.int 1))))))) (mVar 7))))
  mSkip)
def b_corners_1 : SM := i_corners_2
def f_corners_1 : SM := (mFor (mItA enum1 (mCons (mVar 0) mNil)) (gT [(gN 2), (gN 3)])
  b_corners_1)
theorem m_corners_eq : m_corners = fnR 8 ((mSeq i_corners_3
  (mSeq (mAsg (gN 1) (mNew (mDisp mNil)))
  (mSeq f_corners_1
  (mRet (mCB tupleD (mCons (mVar 1) mNil))))))) := rfl
def i__law_roll_1 : SM := (mIf (mB (mOp2 gtD (mOp2 ixD (mVar 0) (mD (.int 0))) (mD (.int 0))))
  (mSeq (mAsg (gN 3) (mOp2 modD (mCB intD (mCons (mOp2 ixD (mVar 0) (mD (.int 0))) mNil)) (mVar 1)))
  (mSeq (mPut (mVar 0) (mD (.int 0)) (mOp2 divD (mOp2 ixD (mVar 0) (mD (.int 0))) (mVar 1)))
  (mRet (mVar 3))))
  mSkip)
theorem m__law_roll_eq : m__law_roll = fnR 4 ((mSeq i__law_roll_1
  (mSeq (mPut (mVar 0) (mD (.int 1)) (mOp2 modD (mCB intD (mCons (mOp2 addD (mOp2 mulD (mOp2 ixD (mVar 0) (mD (.int 1))) (mD (.int 30881))) (mD (.int 7879))) mNil)) (mD (.int 2147483399))))
  (mSeq (mAsg (gN 2) (mOp2 modD (mCB intD (mCons (mOp2 mulD (mOp2 ixD (mVar 0) (mD (.int 1))) (mOp2 addD (mOp2 ixD (mVar 0) (mD (.int 1))) (mD (.int 233)))) mNil)) (mD (.int 2147483563))))
  (mRet (mOp2 modD (mCB intD (mCons (mOp2 divD (mVar 2) (mD (.int 821))) mNil)) (mVar 1))))))) := rfl
def i__law_cell_1 : SM := (mIf (mB (mOp2 eqD (mVar 0) (mFrz (mDisp mNil))))
  (mRet (mD .none))
  mSkip)
theorem m__law_cell_eq : m__law_cell = fnR 4 ((mSeq i__law_cell_1
  (mSeq (mSetL 1 (mLc (mItS (mVar 0)) [2, 3] (gT [(gN 2), (gN 3)]) mYes (mVar 3)))
  (mRet (mTup (mCons (mCB lenD (mCons (mVar 0) mNil)) (mCons (mOp2 ixD (mVar 0) (mD (.int 0))) (mCons (mOp2 ixD (mVar 0) (mOp1 negD (mD (.int 1)))) (mCons (mCB minD (mCons (mVar 1) mNil)) (mCons (mCB maxD (mCons (mVar 1) mNil)) (mCons (mCB sumD (mCons (mVar 1) mNil)) mNil))))))))))) := rfl
def b__law_some_points_1 : SM := (mPut (mVar 3) (mCall1 m__law_roll (mCons (mVar 0) (mCons (mVar 2) mNil))) (mOp2 subD (mCall1 m__law_roll (mCons (mVar 0) (mCons (mD (.int 41)) mNil))) (mD (.int 20))))
def f__law_some_points_1 : SM := (mFor (mItA range1 (mCons (mCall1 m__law_roll (mCons (mVar 0) (mCons (mOp2 addD (mVar 1) (mD (.int 1))) mNil))) mNil)) (gN 4)
  b__law_some_points_1)
theorem m__law_some_points_eq : m__law_some_points = fnR 5 ((mSeq (mAsg (gN 3) mDic0)
  (mSeq f__law_some_points_1
  (mRet (mCB tupleD (mCons (mFrz (mSortItems (mVar 3))) mNil)))))) := rfl
def c_law_16 : TM := (mB (mOp2 ltD (mVar 11) (mCB lenD (mCons (mVar 12) mNil))))
def b_law_16 : SM := (mSeq (mAsg (gN 14) (mOp2 addD (mD (.int 1)) (mCall1 m__law_roll (mCons (mVar 1) (mCons (mD (.int 5)) mNil)))))
  (mPar [13, 11] (mCons (mOp2 addD (mOp2 addD (mVar 13) (mTup (mCons (mCallP m__law_cell (mCons (mFrz (mCBL listD (mCons (mSlice (mVar 12) (mPart (mVar 11)) (mPart (mOp2 addD (mVar 11) (mVar 14)))) mNil))) mNil)) mNil))) (mOp2 mulD (mTup (mCons (mD .none) mNil)) (mCall1 m__law_roll (mCons (mVar 1) (mCons (mD (.int 2)) mNil))))) (mCons (mOp2 addD (mVar 11) (mVar 14)) mNil))))
def w_law_16 : SM := (mWhile 300 c_law_16
  b_law_16)
def i_law_15 : SM := (mIf (mOrT (mNotT (mTruth (mCallP (m__law_same 8) (mCons (mCallP m_cells_joined (mCons (mVar 13) mNil)) (mCons (mCallP m__law_cell (mCons (mFrz (mCBL listD (mCons (mVar 12) mNil))) mNil)) mNil))))) (mB (mOp2 neD (mFrz (mLc (mItS (mVar 13)) [32] (gN 32) (mAndT (mB (mOp2 notND (mVar 32) (mD .none))) (mB (mOp2 notBD (mCallP m_is_cell (mCons (mVar 32) mNil)) (mD (.bool true))))) (mVar 32))) (mFrz (mDisp mNil)))))
  (mRet (mD (.bool false)))
  mSkip)
def i_law_14 : SM := (mIf (mB (mOp2 notND (mOp2 ixD (mVar 13) (mVar 5)) (mD .none)))
  (mSeq (mAsg (gN 21) (mFrz (mDisp (mCons (mOp2 ixD (mOp2 ixD (mOp2 ixD (mVar 13) (mVar 5)) (mD (.int 1))) (mD (.int 1))) (mCons (mOp2 ixD (mOp2 ixD (mVar 13) (mVar 5)) (mD (.int 3))) (mCons (mOp2 ixD (mOp2 ixD (mVar 13) (mVar 5)) (mD (.int 4))) (mCons (mOp2 ixD (mOp2 ixD (mOp2 ixD (mVar 13) (mVar 5)) (mD (.int 2))) (mD (.int 1))) mNil)))))))
  (mAsg (gN 4) (mFrz (mOp2L (onlyL addD) (mVar 4) (mFrz (mLc (mItA range1 (mCons (mD (.int 4)) mNil)) [33] (gN 33) (mOrT (mB (mOp2 eqD (mVar 33) (mD (.int 0)))) (mB (mOp2 neD (mOp2 ixD (mVar 21) (mVar 33)) (mOp2 ixD (mVar 21) (mOp2 subD (mVar 33) (mD (.int 1))))))) (mTup (mCons (mVar 5) (mCons (mOp2 ixD (mVar 21) (mVar 33)) mNil)))))))))
  mSkip)
def b_law_13 : SM := i_law_14
def f_law_13 : SM := (mFor (mItA range1 (mCons (mCB lenD (mCons (mVar 13) mNil)) mNil)) (gN 5)
  b_law_13)
def i_law_12 : SM := (mIf (mNotT (mTruth (mCallP (m__law_same 8) (mCons (mCallP m_corners (mCons (mVar 13) mNil)) (mCons (mCB tupleD (mCons (mVar 4) mNil)) mNil)))))
  (mRet (mD (.bool false)))
  mSkip)
def b_law_11 : SM := (mAsg (gN 22) (mFrz (mOp2L (onlyL addD) (mVar 22) (mFrz (mLc (mItA range1 (mCons (mD (.int 5)) mNil)) [34] (gN 34) mYes (mOp2 addD (mVar 7) (mTup (mCons (mVar 34) mNil))))))))
def f_law_11 : SM := (mFor (mItS (mVar 21)) (gN 7)
  b_law_11)
def b_law_10 : SM := (mSeq (mAsg (gN 22) (mFrz (mDisp mNil)))
  (mSeq f_law_11
  (mAsg (gN 21) (mVar 22))))
def f_law_10 : SM := (mFor (mItA range1 (mCons (mOp2 subD (mVar 14) (mD (.int 2))) mNil)) (gN 6)
  b_law_10)
def b_law_9 : SM := (mSeq (mAsg (gN 23) (mOp2 addD (mOp2 addD (mTup (mCons (mVar 15) mNil)) (mVar 7)) (mTup (mCons (mVar 16) mNil))))
  (mAsg (gN 20) (mOrV (mVar 20) (mOp2 eqD (mTup (mCons (mCB minD (mCons (mVar 23) mNil)) (mCons (mCB maxD (mCons (mVar 23) mNil)) (mCons (mCB sumD (mCons (mVar 23) mNil)) mNil)))) (mTup (mCons (mVar 17) (mCons (mVar 18) (mCons (mVar 19) mNil))))))))
def f_law_9 : SM := (mFor (mItS (mVar 21)) (gN 7)
  b_law_9)
def i_law_8 : SM := (mIf (mNotT (mTruth (mCallP (m__law_same 8) (mCons (mCallP m_is_cell (mCons (mTup (mCons (mVar 14) (mCons (mTup (mCons (mD (.int 10)) (mCons (mVar 15) mNil))) (mCons (mTup (mCons (mD (.int 20)) (mCons (mVar 16) mNil))) (mCons (mVar 17) (mCons (mVar 18) (mCons (mVar 19) mNil))))))) mNil)) (mCons (mVar 20) mNil)))))
  (mRet (mD (.bool false)))
  mSkip)
def b_law_7 : SM := (mAsg (gN 28) (mOp2 mulD (mD (.int 2)) (mVar 28)))
def f_law_7 : SM := (mFor (mItA range1 (mCons (mVar 26) mNil)) (gN 29)
  b_law_7)
def i_law_6 : SM := (mIf (mB (mOp2 neD (mOp2 mulD (mVar 27) (mVar 28)) (mVar 25)))
  (mRet (mD (.bool false)))
  mSkip)
def b_law_5 : SM := (mSeq (mAsg (gN 28) (mD (.int 1)))
  (mSeq f_law_7
  (mSeq i_law_6
  (mAsg (gN 25) (mOp2 addD (mVar 25) (mVar 28))))))
def f_law_5 : SM := (mFor (mItS (mVar 24)) (gT [(gN 26), (gN 27)])
  b_law_5)
def c_law_4 : TM := (mB (mOp2 leD (mVar 28) (mOp2 addD (mOp2 subD (mVar 9) (mVar 11)) (mD (.int 1)))))
def b_law_4 : SM := (mPar [30, 28] (mCons (mOp2 addD (mVar 30) (mIfE (mB (mOp2 eqD (mOp2 modD (mCB intD (mCons (mVar 11) mNil)) (mVar 28)) (mD (.int 0)))) (mFrz (mDisp (mCons (mOp2 ixD (mVar 10) (mOp2 subD (mOp2 addD (mVar 11) (mVar 28)) (mVar 8))) mNil))) (mFrz (mDisp mNil)))) (mCons (mOp2 mulD (mD (.int 2)) (mVar 28)) mNil)))
def w_law_4 : SM := (mWhile 300 c_law_4
  b_law_4)
def b_law_3 : SM := (mSeq (mPar [30, 28] (mCons (mFrz (mDisp mNil)) (mCons (mD (.int 1)) mNil)))
  (mSeq w_law_4
  (mPut (mVar 10) (mOp2 subD (mVar 11) (mVar 8)) (mOp2 addD (mD (.int 1)) (mCB minD (mCons (mVar 30) mNil))))))
def f_law_3 : SM := (mFor (mItA range3 (mCons (mVar 9) (mCons (mOp2 subD (mVar 8) (mD (.int 1))) (mCons (mOp1 negD (mD (.int 1))) mNil)))) (gN 11)
  b_law_3)
def i_law_2 : SM := (mIf (mOrT (mB (mOp2 neD (mVar 25) (mOp2 addD (mVar 9) (mD (.int 1))))) (mB (mOp2 neD (mCB lenD (mCons (mVar 24) mNil)) (mOp2 ixD (mVar 10) (mD (.int 0))))))
  (mRet (mD (.bool false)))
  mSkip)
def b_law_1 : SM := (mSeq (mPar [12, 13, 11] (mCons (mCall1 m__law_some_points (mCons (mVar 1) (mCons (mD (.int 14)) (mCons (mD (.int 60)) mNil)))) (mCons (mTup mNil) (mCons (mD (.int 0)) mNil))))
  (mSeq w_law_16
  (mSeq i_law_15
  (mSeq (mAsg (gN 4) (mFrz (mDisp mNil)))
  (mSeq f_law_13
  (mSeq i_law_12
  (mSeq (mPar [15, 16] (mCons (mCall1 m__law_roll (mCons (mVar 1) (mCons (mD (.int 4)) mNil))) (mCons (mCall1 m__law_roll (mCons (mVar 1) (mCons (mD (.int 4)) mNil))) mNil)))
  (mSeq (mAsg (gT [(gN 14), (gN 17), (gN 18), (gN 19)]) (mTup (mCons (mOp2 addD (mD (.int 2)) (mCall1 m__law_roll (mCons (mVar 1) (mCons (mD (.int 3)) mNil)))) (mCons (mCall1 m__law_roll (mCons (mVar 1) (mCons (mD (.int 3)) mNil))) (mCons (mOp2 addD (mD (.int 1)) (mCall1 m__law_roll (mCons (mVar 1) (mCons (mD (.int 4)) mNil)))) (mCons (mCall1 m__law_roll (mCons (mVar 1) (mCons (mD (.int 16)) mNil))) mNil))))))
  (mSeq (mAsg (gT [(gN 20), (gN 21)]) (mTup (mCons (mD (.bool false)) (mCons (mFrz (mDisp (mCons (mTup mNil) mNil))) mNil))))
  (mSeq f_law_10
  (mSeq f_law_9
  (mSeq i_law_8
  (mSeq (mAsg (gN 8) (mCall1 m__law_roll (mCons (mVar 1) (mCons (mD (.int 100)) mNil))))
  (mSeq (mAsg (gN 9) (mOp2 addD (mVar 8) (mCall1 m__law_roll (mCons (mVar 1) (mCons (mD (.int 60)) mNil)))))
  (mSeq (mPar [24, 25] (mCons (mCallP m_cover (mCons (mVar 8) (mCons (mVar 9) mNil))) (mCons (mVar 8) mNil)))
  (mSeq f_law_5
  (mSeq (mAsg (gN 10) (mNew (mOp2L (onlyL mulD) (mFrz (mDisp (mCons (mD (.int 0)) mNil))) (mOp2 addD (mOp2 subD (mVar 9) (mVar 8)) (mD (.int 2))))))
  (mSeq f_law_3
  i_law_2))))))))))))))))))
def f_law_1 : SM := (mFor (mItA range1 (mCons (mD (.int 5)) mNil)) (gN 2)
  b_law_1)
theorem m_law_eq : m_law = fnR 35 ((mSeq (mAsg (gN 1) (mCallS m__law_cup (mCons (mVar 0) mNil)))
  (mSeq f_law_1
  (mSeq (mAsg (gN 3) (mFrz (mDisp (mCons (mD .none) (mCons (mTup mNil) (mCons (mTup (mCons (mD (.int 0)) (mCons (mTup (mCons (mD (.int 1)) (mCons (mD (.int 1)) mNil))) (mCons (mTup (mCons (mD (.int 1)) (mCons (mD (.int 1)) mNil))) (mCons (mD (.int 1)) (mCons (mD (.int 1)) (mCons (mD (.int 1)) mNil))))))) (mCons (mTup (mCons (mD (.int 1)) (mCons (mTup (mCons (mD (.int 1)) (mCons (mD (.int 1)) mNil))) (mCons (mTup (mCons (mD (.int 2)) (mCons (mD (.int 1)) mNil))) (mCons (mD (.int 1)) (mCons (mD (.int 1)) (mCons (mD (.int 1)) mNil))))))) (mCons (mTup (mCons (mD (.int 1)) (mCons (mTup (mCons (mD (.int 1)) (mCons (mD (.int 1)) mNil))) (mCons (mTup (mCons (mD (.int 1)) (mCons (mD (.int 1)) mNil))) (mCons (mD (.int 1)) (mCons (mD (.int 1)) (mCons (mD (.int 2)) mNil))))))) (mCons (mTup (mCons (mD (.int 3)) (mCons (mTup (mCons (mD (.int 1)) (mCons (mD (.int 1)) mNil))) (mCons (mTup (mCons (mD (.int 2)) (mCons (mD (.int 1)) mNil))) (mCons (mD (.int 1)) (mCons (mD (.int 1)) (mCons (mD (.int 3)) mNil))))))) (mCons (mTup (mCons (mD (.int 2)) (mCons (mTup (mCons (mD (.int 2)) (mCons (mD (.int 1)) mNil))) (mCons (mTup (mCons (mD (.int 1)) (mCons (mD (.int 1)) mNil))) (mCons (mD (.int 1)) (mCons (mD (.int 1)) (mCons (mD (.int 2)) mNil))))))) mNil))))))))))
  (mSeq (mAsg (gN 3) (mFrz (mOp2L (onlyL addD) (mVar 3) (mFrz (mDisp (mCons (mTup (mCons (mD (.int 2)) (mCons (mTup (mCons (mD (.int 1)) (mCons (mD (.int 1)) mNil))) (mCons (mTup (mCons (mD (.int 2)) (mCons (mD (.int 3)) mNil))) (mCons (mD (.int 2)) (mCons (mD (.int 3)) (mCons (mD (.int 4)) mNil))))))) (mCons (mTup (mCons (mD (.bool true)) (mCons (mTup (mCons (mD (.int 1)) (mCons (mD (.int 1)) mNil))) (mCons (mTup (mCons (mD (.int 1)) (mCons (mD (.int 1)) mNil))) (mCons (mD (.int 1)) (mCons (mD (.int 1)) (mCons (mD (.int 1)) mNil))))))) (mCons (mTup (mCons (mD (.int 1)) (mCons (mTup (mCons (mD (.int 1)) (mCons (mD (.bool true)) mNil))) (mCons (mTup (mCons (mD (.int 1)) (mCons (mD (.bool true)) mNil))) (mCons (mD (.int 1)) (mCons (mD (.int 1)) (mCons (mD (.int 1)) mNil))))))) (mCons (mFrz (mDisp (mCons (mD (.int 1)) (mCons (mTup (mCons (mD (.int 1)) (mCons (mD (.int 1)) mNil))) (mCons (mTup (mCons (mD (.int 1)) (mCons (mD (.int 1)) mNil))) (mCons (mD (.int 1)) (mCons (mD (.int 1)) (mCons (mD (.int 1)) mNil)))))))) (mCons (mTup (mCons (mD (.int 4097)) (mCons (mTup (mCons (mD (.int 0)) (mCons (mD (.int 0)) mNil))) (mCons (mTup (mCons (mD (.int 9999)) (mCons (mD (.int 0)) mNil))) (mCons (mD (.int 0)) (mCons (mD (.int 0)) (mCons (mD (.int 0)) mNil))))))) mNil))))))))))
  (mRet (mAndV (mOp2 eqD (mFrz (mLc (mItS (mVar 3)) [31] (gN 31) (mB (mOp2 notBD (mCallP m_is_cell (mCons (mVar 31) mNil)) (mD (.bool false)))) (mVar 31))) (mFrz (mDisp mNil))) (mAndV (mOp2 isBD (mCallP m_is_cell (mCons (mTup (mCons (mD (.int 4096)) (mCons (mTup (mCons (mD (.int 0)) (mCons (mD (.int 0)) mNil))) (mCons (mTup (mCons (mD (.int 4095)) (mCons (mD (.int 0)) mNil))) (mCons (mD (.int 0)) (mCons (mD (.int 0)) (mCons (mD (.int 0)) mNil))))))) mNil)) (mD (.bool true))) (mCallP (m__law_same 8) (mCons (mTup (mCons (mCallP m_cells_joined (mCons (mTup mNil) mNil)) (mCons (mCallP m_corners (mCons (mTup (mCons (mD .none) mNil)) mNil)) mNil))) (mCons (mTup (mCons (mD .none) (mCons (mTup mNil) mNil))) mNil))))))))))) := rfl
end G95

set_option Elab.async false
set_option linter.all false
set_option maxRecDepth 100000
/-! L95: the plain law. -/
namespace G95
open PySem Pi
theorem w_whole (v lo hi : Int) (S : Store) : m_is_whole [.d (.int v), .d (.int lo), .d (.int hi)] S = .ok (.d (.bool (decide (lo ≤ v) && decide (v ≤ hi)))) S := by
  unfold m_is_whole
  rw [fnR_ev]
  simp [startR, isT, Ty.has, truD]
  split <;> simp_all
  intros; omega
theorem w_tuple_of (xs : List D) (lo hi : Int) (S : Store) : m_is_tuple_of [.d (.tuple xs), .d (.int lo), .d (.int hi)] S = .ok (.d (.bool (decide (lo ≤ xs.length) && decide ((xs.length : Int) ≤ hi)))) S := by
  unfold m_is_tuple_of
  rw [fnR_ev]
  simp [startR, isT, Ty.has, truD, lenD]
  split <;> simp_all
  intros; omega
theorem p_whole (v lo hi : Int) (S : Store) : runP m_is_whole [.int v, .int lo, .int hi] S = .ok (.d (.bool (decide (lo ≤ v) && decide (v ≤ hi)))) S := runP_ok S (w_whole v lo hi [])
theorem p_tuple_of (xs : List D) (lo hi : Int) (S : Store) : runP m_is_tuple_of [.tuple xs, .int lo, .int hi] S = .ok (.d (.bool (decide (lo ≤ xs.length) && decide ((xs.length : Int) ≤ hi)))) S := runP_ok S (w_tuple_of xs lo hi [])
abbrev ptD (p : Int × Int) : D := .tuple [.int p.1, .int p.2]
def fitsP (p : Int × Int) : Bool := (decide (0 ≤ p.1) && decide (p.1 ≤ 1000000000000000)) && (decide (-1000000000000 ≤ p.2) && decide (p.2 ≤ 1000000000000))
theorem w_fits_point (p : Int × Int) (S : Store) : m_fits_point [.d (ptD p)] S = .ok (.d (.bool (fitsP p))) S := by
  unfold m_fits_point
  rw [fnR_ev]
  simp [startR, p_whole, p_tuple_of, truD, fitsP]
  split <;> simp_all
  intros; omega
theorem p_fits_point (p : Int × Int) (S : Store) : runP m_fits_point [ptD p] S = .ok (.d (.bool (fitsP p))) S := runP_ok S (w_fits_point p [])
theorem eq_pt (p q : Int × Int) : eqD (ptD p) (ptD q) = some (.bool (decide (p = q))) := by
  rw [eqD_pure (by simp [pureT, pureTs]) (by simp [pureT, pureTs]) (by simp [PyData.depth, PyData.depthAll]) (by simp [PyData.depth, PyData.depthAll])]
  congr 2
  rw [Bool.eq_iff_iff, eqv_pure _ _ (by simp [pureT, pureTs]) (by simp [pureT, pureTs])]
  simp [Prod.ext_iff]
theorem notIn2 (x a b : Int) : notInD (.int x) (.tuple [.int a, .int b]) = some (.bool (!(decide (a = x) || decide (b = x)))) := by
  simp [notInD, inB, flatP, eqv_int]
def needs (a b lo hi : Int) : List Int := (sortU [lo, hi]).filter fun x => !(decide (a = x) || decide (b = x))
def restC (n a b lo hi : Int) : Int := n - 2 - ((needs a b lo hi).length : Int)
def baseC (a b lo hi : Int) : Int := a + b + (needs a b lo hi).sum
def fitsR (n a b lo hi s : Int) : Bool := decide (0 ≤ restC n a b lo hi) && (decide (baseC a b lo hi + restC n a b lo hi * lo ≤ s) && decide (s ≤ baseC a b lo hi + restC n a b lo hi * hi))
theorem sortU_len2 (lo hi : Int) : (sortU [lo, hi]).length ≤ 2 := by
  simp only [sortU, insU]
  split
  · simp
  · split <;> simp
theorem needs_len (a b lo hi : Int) : (needs a b lo hi).length ≤ 2 := Nat.le_trans (List.length_filter_le _ _) (sortU_len2 lo hi)
theorem w_fits_rest (n a b lo hi s : Int) (hn : -(2 ^ 40) < n ∧ n < 2 ^ 40) (S : Store) : m_fits_rest [.d (.int n), .d (.tuple [.int a, .int b]), .d (.int lo), .d (.int hi), .d (.int s)] S = .ok (.d (.bool (fitsR n a b lo hi s))) S := by
  have hz : sizeLine = 16777216 := by decide
  have lc : ∀ (ρ : Pi.Env), ρ.length = 9 → ρ[1]? = some (some (.d (.tuple [.int a, .int b]))) → lcLoop ρ (gN 8) (mB (mOp2 notInD (mVar 8) (mVar 1))) (mVar 8) ((sortU [lo, hi]).map .int) S = .ok ((needs a b lo hi).map .int) S := fun ρ hl h1 => by
    refine lc_of PyData.int fun x _ => ⟨ρ.set 8 (some (.d (.int x))), rfl, ?_, fun _ => ?_⟩
    · have e1 : (ρ.set 8 (some (R.d (.int x))))[1]? = some (some (.d (.tuple [.int a, .int b]))) := by rw [List.getElem?_set_ne (by decide)]; exact h1
      have e2 : (ρ.set 8 (some (R.d (.int x))))[8]? = some (some (.d (.int x))) := List.getElem?_set_self (by omega)
      simp [e1, e2, notIn2]
    · have e2 : (ρ.set 8 (some (R.d (.int x))))[8]? = some (some (.d (.int x))) := List.getElem?_set_self (by omega)
      simp [e2]
  have hm : ∀ z, mulD (.int (n - 2 - ((needs a b lo hi).length : Int))) (.int z) = some (.int ((n - 2 - ((needs a b lo hi).length : Int)) * z)) := fun z => mulD_int (mulOk_l (by have := needs_len a b lo hi; omega))
  have hlen : (needs a b lo hi).length ≤ 16777216 := by have := needs_len a b lo hi; omega
  unfold m_fits_rest
  rw [fnR_ev]
  simp [startR, hz]
  rw [lc _ (by simp) (by simp)]
  simp [hz, hlen, sumD, intsD_map, hm, fitsR, restC, baseC]
  by_cases hA : ((needs a b lo hi).length : Int) ≤ n - 2
  · by_cases hB : a + b + (needs a b lo hi).sum + (n - 2 - ((needs a b lo hi).length : Int)) * lo ≤ s
    · simp [hA, hB]
      try exact decide_eq_decide.mpr Iff.rfl
    · simp [hA, hB]
  · simp [hA]
theorem p_fits_rest (n a b lo hi s : Int) (hn : -(2 ^ 40) < n ∧ n < 2 ^ 40) (S : Store) : runP m_fits_rest [.int n, .tuple [.int a, .int b], .int lo, .int hi, .int s] S = .ok (.d (.bool (fitsR n a b lo hi s))) S := runP_ok S (w_fits_rest n a b lo hi s hn [])
abbrev cellD (n : Int) (a b : Int × Int) (lo hi s : Int) : D := .tuple [.int n, ptD a, ptD b, .int lo, .int hi, .int s]
def fitsC (n : Int) (a b : Int × Int) (lo hi s : Int) : Bool := decide (1 ≤ n ∧ n ≤ 4096) && (fitsP a && (fitsP b && (decide (n - 1 ≤ b.1 - a.1) && (decide (-1000000000000 ≤ lo ∧ lo ≤ min a.2 b.2) && (decide (max a.2 b.2 ≤ hi ∧ hi ≤ 1000000000000) &&
  (if n = 1 then decide (a = b) && decide (lo = a.2 ∧ hi = a.2 ∧ s = a.2) else fitsR n a.2 b.2 lo hi s))))))
theorem eq_3 (a b c d e f : Int) : eqD (.tuple [.int a, .int b, .int c]) (.tuple [.int d, .int e, .int f]) = some (.bool (decide (a = d ∧ b = e ∧ c = f))) := by
  rw [eqD_pure (by simp [pureT, pureTs]) (by simp [pureT, pureTs]) (by simp [PyData.depth, PyData.depthAll]) (by simp [PyData.depth, PyData.depthAll])]
  congr 2
  rw [Bool.eq_iff_iff, eqv_pure _ _ (by simp [pureT, pureTs]) (by simp [pureT, pureTs])]
  simp
theorem rep3 (e : Int) : mulD (.tuple [.int e]) (.int 3) = some (.tuple [.int e, .int e, .int e]) := rfl
theorem cut36 (a b c d e f : D) : sliceD (.tuple [a, b, c, d, e, f]) (some 3) none = some (.tuple [d, e, f]) := rfl
theorem cut01 (a b : D) : sliceD (.tuple [a, b]) none (some 1) = some (.tuple [a]) := rfl
theorem min2 (a b : Int) : minD [.tuple [.int a, .int b]] = some (.int (min a b)) := rfl
theorem max2 (a b : Int) : maxD [.tuple [.int a, .int b]] = some (.int (max a b)) := rfl
theorem w_fits_cell (n : Int) (a b : Int × Int) (lo hi s : Int) (S : Store) : m_fits_cell [.d (cellD n a b lo hi s)] S = .ok (.d (.bool (fitsC n a b lo hi s))) S := by
  have hz : sizeLine = 16777216 := by decide
  unfold m_fits_cell
  rw [fnR_ev]
  by_cases h1 : 1 ≤ n ∧ n ≤ 4096
  · cases h2 : fitsP a with
    | false => simp [startR, hz, p_tuple_of, p_whole, p_fits_point, h1, h2, fitsC]
    | true =>
      cases h3 : fitsP b with
      | false => simp [startR, hz, p_tuple_of, p_whole, p_fits_point, h1, h2, h3, fitsC]
      | true =>
        by_cases h4 : b.1 - a.1 < n - 1
        · have h4' : ¬ (n - 1 ≤ b.1 - a.1) := by omega
          simp [startR, hz, p_tuple_of, p_whole, p_fits_point, h1, h2, h3, h4, h4', fitsC]
        · have h4' : n - 1 ≤ b.1 - a.1 := by omega
          by_cases h5 : -1000000000000 ≤ lo
          · by_cases h6 : lo ≤ min a.2 b.2
            · by_cases h7 : max a.2 b.2 ≤ hi
              · by_cases h8 : hi ≤ 1000000000000
                · by_cases h9 : n = 1
                  · subst h9
                    have h4s : ¬ (b.1 - a.1 < 0) := by omega
                    have h4t : 0 ≤ b.1 - a.1 := by omega
                    by_cases h10 : a = b
                    · subst h10
                      have h6s : lo ≤ a.2 := by omega
                      have h6t : ¬ (a.2 < lo) := by omega
                      have h7s : a.2 ≤ hi := by omega
                      simp [startR, hz, p_tuple_of, p_whole, p_fits_point, h2, h4, h4', h5, h6s, h6t, h7s, h8, fitsC, cut36, lcLoop_cons, Ty.has, allD1, boolsD, min2, max2, eq_pt, cut01, rep3, eq_3]
                    · simp [startR, hz, p_tuple_of, p_whole, p_fits_point, h2, h3, h4s, h4t, h5, h6, h7, h8, h10, fitsC, cut36, lcLoop_cons, Ty.has, allD1, boolsD, min2, max2, eq_pt, cut01, rep3, eq_3]
                  · simp [startR, hz, p_tuple_of, p_whole, p_fits_point, h1, h2, h3, h4, h4', h5, h6, h7, h8, h9, fitsC, cut36, lcLoop_cons, Ty.has, allD1, boolsD, min2, max2, p_fits_rest n a.2 b.2 lo hi s (by omega)]
                · simp [startR, hz, p_tuple_of, p_whole, p_fits_point, h1, h2, h3, h4, h4', h5, h6, h7, h8, fitsC, cut36, lcLoop_cons, Ty.has, allD1, boolsD, min2, max2]
              · simp [startR, hz, p_tuple_of, p_whole, p_fits_point, h1, h2, h3, h4, h4', h5, h6, h7, fitsC, cut36, lcLoop_cons, Ty.has, allD1, boolsD, min2, max2]
            · simp [startR, hz, p_tuple_of, p_whole, p_fits_point, h1, h2, h3, h4, h4', h5, h6, fitsC, cut36, lcLoop_cons, Ty.has, allD1, boolsD, min2, max2]
          · simp [startR, hz, p_tuple_of, p_whole, p_fits_point, h1, h2, h3, h4, h4', h5, fitsC, cut36, lcLoop_cons, Ty.has, allD1, boolsD, min2, max2]
  · have h1' : n < 1 ∨ 4096 < n := by omega
    have h1'' : 1 ≤ n → 4096 < n := by omega
    simp [startR, hz, p_tuple_of, p_whole, p_fits_point, fitsC, h1', h1'']
    exact fun q1 q2 => absurd ⟨q1, q2⟩ h1
theorem p_fits_cell (n : Int) (a b : Int × Int) (lo hi s : Int) (S : Store) : runP m_fits_cell [cellD n a b lo hi s] S = .ok (.d (.bool (fitsC n a b lo hi s))) S := runP_ok S (w_fits_cell n a b lo hi s [])
theorem p_is_cell (n : Int) (a b : Int × Int) (lo hi s : Int) (S : Store) : runP m_is_cell [cellD n a b lo hi s] S = .ok (.d (.bool (fitsC n a b lo hi s))) S := by
  refine runP_ok (S' := []) S ?_
  unfold m_is_cell
  rw [fnR_ev]
  simp [startR, p_fits_cell]
/-! cells of points -/
abbrev Pt := Int × Int
structure CT where
  n : Int
  a : Pt
  b : Pt
  lo : Int
  hi : Int
  s : Int
abbrev cD (c : CT) : D := cellD c.n c.a c.b c.lo c.hi c.s
def CT.fits (c : CT) : Bool := fitsC c.n c.a c.b c.lo c.hi c.s
def joinC (c d : CT) : CT := ⟨c.n + d.n, c.a, d.b, min c.lo d.lo, max c.hi d.hi, c.s + d.s⟩
theorem w_joined (c d : CT) (S : Store) : m_joined [.d (cD c), .d (cD d)] S = .ok (.d (cD (joinC c d))) S := by
  have hz : sizeLine = 16777216 := by decide
  unfold m_joined
  rw [fnR_ev]
  simp [startR, hz, joinC]
theorem w_joined0 (d : CT) (S : Store) : m_joined [.d .none, .d (cD d)] S = .ok (.d (cD d)) S := by
  unfold m_joined
  rw [fnR_ev]
  simp [startR]
theorem p_joined (c d : CT) (S : Store) : runP m_joined [cD c, cD d] S = .ok (.d (cD (joinC c d))) S := runP_ok S (w_joined c d [])
theorem p_joined0 (d : CT) (S : Store) : runP m_joined [.none, cD d] S = .ok (.d (cD d)) S := runP_ok S (w_joined0 d [])
def joinAll : Option CT → List CT → Option CT
  | o, [] => o
  | none, c :: r => joinAll (some c) r
  | some x, c :: r => joinAll (some (joinC x c)) r
def optC : Option CT → D
  | some c => cD c
  | none => .none
@[simp] theorem optC_some (c : CT) : optC (some c) = cD c := rfl
@[simp] theorem optC_none : optC none = .none := rfl
theorem loop_joined (S : Store) : ∀ (cs : List CT) (x0 x2 : Option R) (o : Option CT), ∃ x2', forLoop (gN 2) (mAsg (gN 1) (mCallP m_joined (mCons (mVar 1) (mCons (mVar 2) mNil)))) (cs.map cD) [x0, some (.d (optC o)), x2] S = .nx [x0, some (.d (optC (joinAll o cs))), x2'] S
  | [], x0, x2, o => ⟨x2, by cases o <;> rfl⟩
  | c :: cs, x0, x2, o => by
    cases o with
    | none =>
      obtain ⟨x2', ih⟩ := loop_joined S cs x0 (some (.d (cD c))) (some c)
      refine ⟨x2', ?_⟩
      rw [List.map_cons, forLoop_cons]
      simp [p_joined0] at ih ⊢
      simp [ih, joinAll]
    | some x =>
      obtain ⟨x2', ih⟩ := loop_joined S cs x0 (some (.d (cD c))) (some (joinC x c))
      refine ⟨x2', ?_⟩
      rw [List.map_cons, forLoop_cons]
      simp [p_joined] at ih ⊢
      simp [ih, joinAll]
theorem p_joined_all (cs : List CT) (S : Store) : runP m_joined_all [.list (cs.map cD)] S = .ok (.d (optC (joinAll none cs))) S := by
  refine runP_ok (S' := []) S ?_
  unfold m_joined_all
  rw [fnR_ev]
  obtain ⟨x2', h⟩ := loop_joined [] cs (some (.d (.list (cs.map cD)))) none none
  simp at h
  simp [startR, h]
def cellOf (pts : List Pt) : CT := ⟨pts.length, pts.headD (0, 0), pts.getLastD (0, 0), minI (pts.map (·.2)), maxI (pts.map (·.2)), (pts.map (·.2)).sum⟩
def optP : List Pt → Option CT
  | [] => none
  | p :: r => some (cellOf (p :: r))
theorem ixLast (xs : List D) (d : D) (h : xs.getLast? = some d) : ixD (.list xs) (.int (-1)) = some d := by
  have hl : 0 < xs.length := by
    cases xs with
    | nil => cases h
    | cons _ _ => simp
  have h1 : -(xs.length : Int) ≤ -1 := by omega
  have h2 : (-1 + (xs.length : Int)).toNat = xs.length - 1 := by omega
  rw [List.getLast?_eq_getElem?] at h
  simp [ixD, atD, L2.ixN, h1, h2, h]
theorem p_law_cell (pts : List Pt) (hl : pts.length ≤ 1000) (S : Store) : runP m__law_cell [.list (pts.map ptD)] S = .ok (.d (optC (optP pts))) S := by
  have hz : sizeLine = 16777216 := by decide
  refine runP_ok (S' := []) S ?_
  unfold m__law_cell
  rw [fnR_ev]
  cases pts with
  | nil =>
    have : eqD (.list []) (.list []) = some (.bool true) := rfl
    simp [startR, this, optP]
  | cons p r =>
    have h0 : eqD (.list ((p :: r).map ptD)) (.list []) = some (.bool false) := by
      rw [eqD_pure]
      · simp [PyData.eqv, PyData.eqvAll]
      · exact pureTs_map (fun x => by simp [pureT, pureTs]) _
      · rfl
      · rw [PyData.depth]
        have : PyData.depthAll ((p :: r).map ptD) ≤ 1 := depthAll_le fun x hx => by
          obtain ⟨y, _, rfl⟩ := List.mem_map.mp hx
          simp [PyData.depth, PyData.depthAll]
        omega
      · simp [PyData.depth, PyData.depthAll]
    have lc : ∀ ρ : Pi.Env, ρ.length = 4 → lcLoop ρ (gT [gN 2, gN 3]) mYes (mVar 3) ((p :: r).map ptD) [] = .ok (((p :: r).map (·.2)).map .int) [] := fun ρ hl => by
      rw [List.map_map]
      refine lc_all ptD fun x _ => ⟨(ρ.set 2 (some (.d (.int x.1)))).set 3 (some (.d (.int x.2))), ?_, ?_⟩
      · simp
      · have : ((ρ.set 2 (some (R.d (.int x.1)))).set 3 (some (R.d (.int x.2))))[3]? = some (some (R.d (.int x.2))) := List.getElem?_set_self (by simp; omega)
        simp [this]
    have hlast : ixD (.list ((p :: r).map ptD)) (.int (-1)) = some (ptD ((p :: r).getLastD (0, 0))) := by
      refine ixLast _ _ ?_
      rw [List.getLast?_map, List.getLastD_eq_getLast?, List.getLast?_eq_some_getLast (by simp)]
      rfl
    have hfirst : ixD (.list ((p :: r).map ptD)) (.int 0) = some (ptD ((p :: r).headD (0, 0))) := by simp
    have hmin : minD [.list (((p :: r).map (·.2)).map .int)] = some (.int (minI ((p :: r).map (·.2)))) := by
      show minOf _ = _
      unfold minOf
      rw [intsD_map]
      rfl
    have hmax : maxD [.list (((p :: r).map (·.2)).map .int)] = some (.int (maxI ((p :: r).map (·.2)))) := by
      show maxOf _ = _
      unfold maxOf
      rw [intsD_map]
      rfl
    have hsum : sumD [.list (((p :: r).map (·.2)).map .int)] = some (.int (((p :: r).map (·.2)).sum)) := by
      show (intsD _).map _ = _
      rw [intsD_map]
      rfl
    have ho : optP (p :: r) = some (cellOf (p :: r)) := rfl
    generalize p :: r = q at *
    rw [List.map_map] at hmin hmax hsum
    have hl2 : q.length ≤ 16777216 := by omega
    simp [startR, h0, lc, hz, hl2, hfirst, hlast, hmin, hmax, hsum, ho, cellOf]
theorem same_tup (n : Nat) (xs : List D) (S : Store) (L J : List D) (hr : range1 [.int (xs.length : Int)] = some J)
    (lc : lcLoop [some (.d (.tuple xs)), some (.d (.tuple xs)), none] (gN 2) mYes (mCallP (m__law_same n) (mCons (mOp2 ixD (mVar 0) (mVar 2)) (mCons (mOp2 ixD (mVar 1) (mVar 2)) mNil))) J S = .ok L S) (hL : L.length ≤ sizeLine) (hall : allD1 [.list L] = some (.bool true)) :
    m__law_same (n + 1) [.d (.tuple xs), .d (.tuple xs)] S = .ok (.d (.bool true)) S := by
  unfold m__law_same
  generalize m__law_same n = F at lc ⊢
  rw [fnR_ev]
  have c1 : mTruth (mOp1 (isT .tup) (mVar 1)) [some (.d (.tuple xs)), some (.d (.tuple xs)), none] S = .ok true S := by simp [Ty.has]
  have c2 : (mIf (mOrT (mNotT (mTruth (mOp1 (isT .tup) (mVar 0)))) (mB (mOp2 neD (mCB lenD (mCons (mVar 0) mNil)) (mCB lenD (mCons (mVar 1) mNil))))) (mRet (mD (.bool false))) mSkip) [some (.d (.tuple xs)), some (.d (.tuple xs)), none] S = .nx [some (.d (.tuple xs)), some (.d (.tuple xs)), none] S := by simp [Ty.has]
  have c3 : (mLc (mItA range1 (mCons (mCB lenD (mCons (mVar 1) mNil)) mNil)) [2] (gN 2) mYes (mCallP F (mCons (mOp2 ixD (mVar 0) (mVar 2)) (mCons (mOp2 ixD (mVar 1) (mVar 2)) mNil)))) [some (.d (.tuple xs)), some (.d (.tuple xs)), none] S = .ok L S := by
    simp [hr]
    rw [lc]
    simp [hL]
  rw [show startR 3 [R.d (.tuple xs), R.d (.tuple xs)] = [some (.d (.tuple xs)), some (.d (.tuple xs)), none] from rfl, mSeq_ev, mIf_ev, c1]
  simp only [Res.out_ok, if_true]
  rw [mSeq_ev, c2, seq_nx, mRet_ev, mCB_ev, mCons_ev, mFrz_ev, c3]
  simp [hall]
theorem w_same (n : Nat) : ∀ (x : D) (S : Store), okS x = true → x.depth < n → m__law_same n [.d x, .d x] S = .ok (.d (.bool true)) S := by
  induction n with
  | zero => exact fun x S _ h => absurd h (Nat.not_lt_zero _)
  | succ n ih =>
    intro x S ok h
    have hz : sizeLine = 16777216 := by decide
    cases x with
    | none =>
      unfold m__law_same
      rw [fnR_ev]
      simp [startR, Ty.has]
    | bool b =>
      unfold m__law_same
      rw [fnR_ev]
      cases b <;> simp [startR, Ty.has]
    | int i =>
      unfold m__law_same
      rw [fnR_ev]
      simp [startR, Ty.has]
    | tuple xs =>
      unfold okS at ok
      simp only [Bool.and_eq_true, decide_eq_true_eq] at ok
      obtain ⟨hl, oks⟩ := ok
      rw [PyData.depth] at h
      have lc : ∀ ρ : Pi.Env, ρ.length = 3 → ρ[0]? = some (some (.d (.tuple xs))) → ρ[1]? = some (some (.d (.tuple xs))) →
          lcLoop ρ (gN 2) mYes (mCallP (m__law_same n) (mCons (mOp2 ixD (mVar 0) (mVar 2)) (mCons (mOp2 ixD (mVar 1) (mVar 2)) mNil))) ((List.range xs.length).map fun k : Nat => PyData.int (k : Int)) S = .ok ((List.range xs.length).map fun _ => .bool true) S := fun ρ h3 h0 h1 => by
        refine lc_all (fun k : Nat => PyData.int (k : Int)) fun k hk => ⟨ρ.set 2 (some (.d (.int k))), rfl, ?_⟩
        have hk' : k < xs.length := List.mem_range.mp hk
        have e0 : (ρ.set 2 (some (R.d (.int k))))[0]? = some (some (.d (.tuple xs))) := by rw [List.getElem?_set_ne (by decide)]; exact h0
        have e1 : (ρ.set 2 (some (R.d (.int k))))[1]? = some (some (.d (.tuple xs))) := by rw [List.getElem?_set_ne (by decide)]; exact h1
        have e2 : (ρ.set 2 (some (R.d (.int k))))[2]? = some (some (.d (.int k))) := List.getElem?_set_self (by omega)
        have ex : xs[k]? = some xs[k] := List.getElem?_eq_getElem hk'
        have hrec := runP_ok (ds := [xs[k], xs[k]]) S (ih xs[k] [] (okSs_get oks ex) (by have := depth_get ex; omega))
        simp [e0, e1, e2, ixT xs k hk', ex]
        exact hrec
      have hlen : (xs.length : Int) ≤ 2 ^ 40 := by omega
      have hr : range1 [.int (xs.length : Int)] = some ((List.range xs.length).map fun k : Nat => PyData.int (k : Int)) := by
        have := range1_nat (j := (xs.length : Int)) (by omega) hlen
        rw [this, Int.toNat_natCast]
      have hall := allD1_const (List.range xs.length)
      have hL : ((List.range xs.length).map fun _ => PyData.bool true).length ≤ sizeLine := by rw [List.length_map, List.length_range, hz]; omega
      have lc' := lc [some (.d (.tuple xs)), some (.d (.tuple xs)), none] rfl rfl rfl
      generalize ((List.range xs.length).map fun _ => PyData.bool true) = L at hall hL lc'
      generalize ((List.range xs.length).map fun k : Nat => PyData.int (k : Int)) = J at hr lc'
      exact same_tup n xs S L J hr lc' hL hall
    | str _ => cases ok
    | list _ => cases ok
    | dict _ => cases ok
theorem p_same (x : D) (S : Store) (h1 : okS x = true) (h2 : x.depth < 8) : runP (m__law_same 8) [x, x] S = .ok (.d (.bool true)) S := runP_ok S (w_same 8 x [] h1 h2)
/-! the rolls -/
abbrev cup (a b : Int) : Cell := .lst [.int a, .int b]
theorem w_roll (a b m : Int) (h0 : 0 < m) (h1 : m < 2 ^ 32) : ∃ r a' b', 0 ≤ r ∧ r < m ∧ m__law_roll [.ref 0, .d (.int m)] [cup a b] = .ok (.d (.int r)) [cup a' b'] := by
  have hr : ∀ x y : Int, rd [cup x y] (.ref 0) = some (.list [.int x, .int y]) := fun _ _ => rfl
  have hp : ∀ x y z : Int, putR [cup x y] (.ref 0) (.d (.int 0)) (.d (.int z)) = some [cup z y] := fun _ _ _ => rfl
  have hq : ∀ x y z : Int, putR [cup x y] (.ref 0) (.d (.int 1)) (.d (.int z)) = some [cup x z] := fun _ _ _ => rfl
  unfold m__law_roll
  rw [fnR_ev]
  by_cases ha : 0 < a
  · refine ⟨a % m, a / m, b, Int.emod_nonneg _ (by omega), Int.emod_lt_of_pos _ h0, ?_⟩
    simp [startR, hr, ha, modD_int h0, divD_int h0 (by omega), mPut, hp]
  · refine ⟨((b * 30881 + 7879) % 2147483399 * ((b * 30881 + 7879) % 2147483399 + 233)) % 2147483563 / 821 % m, a, (b * 30881 + 7879) % 2147483399, Int.emod_nonneg _ (by omega), Int.emod_lt_of_pos _ h0, ?_⟩
    have b0 : 0 ≤ (b * 30881 + 7879) % 2147483399 := Int.emod_nonneg _ (by omega)
    have b1 : (b * 30881 + 7879) % 2147483399 < 2147483399 := Int.emod_lt_of_pos _ (by omega)
    have m1 : mulD (.int b) (.int 30881) = some (.int (b * 30881)) := mulD_int (mulOk_r (by omega))
    generalize hcc : (b * 30881 + 7879) % 2147483399 = c at *
    have m2 : mulD (.int c) (.int (c + 233)) = some (.int (c * (c + 233))) := mulD_int (mulOk_r (by omega))
    have d1 : modD (.int (b * 30881 + 7879)) (.int 2147483399) = some (.int c) := by rw [modD_int (by omega), hcc]
    have d2 : modD (.int (c * (c + 233))) (.int 2147483563) = some (.int (c * (c + 233) % 2147483563)) := modD_int (by omega)
    have d3 : divD (.int (c * (c + 233) % 2147483563)) (.int 821) = some (.int (c * (c + 233) % 2147483563 / 821)) := divD_int (by omega) (by omega)
    have d4 : modD (.int (c * (c + 233) % 2147483563 / 821)) (.int m) = some (.int (c * (c + 233) % 2147483563 / 821 % m)) := modD_int h0
    simp [startR, hr, ha, hq, m1, m2, d1, d2, d3, d4]
theorem r_roll (a b m : Int) (T : Store) (h0 : 0 < m) (h1 : m < 2 ^ 32) : ∃ r a' b', 0 ≤ r ∧ r < m ∧ run1 m__law_roll 0 [.int m] (cup a b :: T) = .ok (.d (.int r)) (cup a' b' :: T) := by
  obtain ⟨r, a', b', h2, h3, h4⟩ := w_roll a b m h0 h1
  exact ⟨r, a', b', h2, h3, run1_ok (S := cup a b :: T) (T := []) rfl h4⟩
/-! the points -/
def putI (l : List Pt) (k v : Int) : List Pt := if (l.any fun p => decide (p.1 = k)) = true then l.map fun p => if p.1 = k then (p.1, v) else p else l ++ [(k, v)]
def encI (l : List Pt) : List (D × R) := l.map fun p => (.int p.1, .d (.int p.2))
theorem put_enc (l : List Pt) (k v : Int) : putKv (encI l) (.int k) (.d (.int v)) = encI (putI l k v) := by
  unfold putKv putI encI
  have e1 : ((l.map fun p => ((PyData.int p.1, R.d (PyData.int p.2)) : D × R)).any fun p => kEq p.1 (.int k)) = l.any fun p => decide (p.1 = k) := by
    rw [List.any_map]
    rfl
  rw [e1]
  split
  · rw [List.map_map, List.map_map]
    refine List.map_congr_left fun p _ => ?_
    show (if kEq (.int p.1) (.int k) = true then _ else _) = (((.int (if p.1 = k then (p.1, v) else p).1, .d (.int (if p.1 = k then (p.1, v) else p).2)) : D × R))
    by_cases h : p.1 = k
    · simp [kEq, h]
    · simp [kEq, h]
  · simp
structure PtsOk (n : Nat) (tm : Int) (l : List Pt) : Prop where
  len : l.length ≤ n
  nd : (l.map (·.1)).Nodup
  bd : ∀ p ∈ l, 0 ≤ p.1 ∧ p.1 < tm ∧ -20 ≤ p.2 ∧ p.2 ≤ 20
theorem PtsOk.put {n : Nat} {tm k v : Int} {l : List Pt} (h : PtsOk n tm l) (hk : 0 ≤ k ∧ k < tm) (hv : -20 ≤ v ∧ v ≤ 20) : PtsOk (n + 1) tm (putI l k v) := by
  unfold putI
  split
  · have e : (l.map fun p => if p.1 = k then (p.1, v) else p).map (·.1) = l.map (·.1) := by
      rw [List.map_map]
      refine List.map_congr_left fun p _ => ?_
      show (if p.1 = k then (p.1, v) else p).1 = p.1
      split <;> rfl
    refine ⟨by rw [List.length_map]; exact Nat.le_succ_of_le h.len, by rw [e]; exact h.nd, fun p hp => ?_⟩
    obtain ⟨q, hq, rfl⟩ := List.mem_map.mp hp
    have := h.bd q hq
    split
    · exact ⟨this.1, this.2.1, hv⟩
    · exact this
  · rename_i hn
    refine ⟨by rw [List.length_append]; exact Nat.succ_le_succ h.len, ?_, fun p hp => ?_⟩
    · rw [List.map_append, List.nodup_append]
      refine ⟨h.nd, by simp, fun x hx y hy => ?_⟩
      obtain rfl : y = k := by simpa using hy
      obtain ⟨q, hq, rfl⟩ := List.mem_map.mp hx
      intro e
      exact hn (List.any_eq_true.mpr ⟨q, hq, decide_eq_true e⟩)
    · rcases List.mem_append.mp hp with hp | hp
      · exact h.bd p hp
      · obtain rfl : p = (k, v) := by simpa using hp
        exact ⟨hk.1, hk.2, hv⟩
theorem loop_points (tm : Int) (ht : 0 < tm ∧ tm < 2 ^ 32) (x1 : Option R) : ∀ (ds : List D) (n : Nat) (l : List Pt) (a b : Int) (x4 : Option R), PtsOk n tm l → n + ds.length ≤ 1000 →
    ∃ l' a' b' x4', PtsOk (n + ds.length) tm l' ∧ forLoop (gN 4) (mPut (mVar 3) (mCall1 m__law_roll (mCons (mVar 0) (mCons (mVar 2) mNil))) (mOp2 subD (mCall1 m__law_roll (mCons (mVar 0) (mCons (mD (.int 41)) mNil))) (mD (.int 20)))) ds
      [some (.ref 0), x1, some (.d (.int tm)), some (.ref 1), x4] [cup a b, .dic (encI l)] = .nx [some (.ref 0), x1, some (.d (.int tm)), some (.ref 1), x4'] [cup a' b', .dic (encI l')]
  | [], n, l, a, b, x4, h, _ => ⟨l, a, b, x4, h, rfl⟩
  | d :: ds, n, l, a, b, x4, h, hn => by
    obtain ⟨v, a1, b1, v0, v1, e1⟩ := r_roll a b 41 [.dic (encI l)] (by omega) (by omega)
    obtain ⟨k, a2, b2, k0, k1, e2⟩ := r_roll a1 b1 tm [.dic (encI l)] ht.1 ht.2
    obtain ⟨l', a', b', x4', h', e3⟩ := loop_points tm ht x1 ds (n + 1) (putI l k (v - 20)) a2 b2 (some (.d d)) (h.put ⟨k0, k1⟩ (by omega)) (by simp at hn; omega)
    refine ⟨l', a', b', x4', by simp at h' ⊢; rw [show n + (ds.length + 1) = n + 1 + ds.length by omega]; exact h', ?_⟩
    have hp : putR [cup a2 b2, .dic (encI l)] (.ref 1) (.d (.int k)) (.d (.int (v - 20))) = some [cup a2 b2, .dic (encI (putI l k (v - 20)))] := by
      have hl : (encI l).length < sizeLine := by
        have hz : sizeLine = 16777216 := by decide
        have := h.len
        unfold encI
        rw [List.length_map, hz]
        simp at hn
        omega
      show (if (encI l).length < sizeLine then some _ else none) = _
      rw [if_pos hl, put_enc]
      rfl
    rw [forLoop_cons]
    simp [e1, e2, hp, e3]
def leP (p q : Pt) : Bool := decide (p.1 < q.1 ∨ (p.1 = q.1 ∧ p.2 ≤ q.2))
theorem leP_tr (a b c : Pt) (h1 : leP a b = true) (h2 : leP b c = true) : leP a c = true := by
  unfold leP at *
  simp only [decide_eq_true_eq] at *
  omega
theorem leP_to (a b : Pt) : (leP a b || leP b a) = true := by
  unfold leP
  rw [Bool.or_eq_true, decide_eq_true_eq, decide_eq_true_eq]
  omega
theorem sort_pts (l : List Pt) : sortD (l.map ptD) = (sortBy leP l).map ptD := by
  unfold sortD
  rw [sortBy_map]
  congr 2
  funext p q
  show PySem.W.dataLe false ptD p q = _
  rw [show PySem.W.dataLe false ptD = PySem.W.dataLe false (fun p : Pt => PyData.tuple [.int p.1, .int p.2]) from rfl, PySem.W.dataLe_ii]
  rfl
structure Pts (pts : List Pt) : Prop where
  len : pts.length ≤ 14
  up : pts.Pairwise fun p q => p.1 < q.1
  bd : ∀ p ∈ pts, 0 ≤ p.1 ∧ p.1 < 60 ∧ -20 ≤ p.2 ∧ p.2 ≤ 20
theorem pairs_enc : ∀ l : List Pt, pairsR (encI l) = some (l.map ptD)
  | [] => rfl
  | p :: l => by
    show (match pairsR (encI l) with | some r => some (PyData.tuple [.int p.1, .int p.2] :: r) | none => none) = _
    rw [pairs_enc l]
    rfl
theorem items_enc (l : List Pt) (h : l.length ≤ 100) : itemsD (encI l) = some ((sortBy leP l).map ptD) := by
  have hz : sizeLine = 16777216 := by decide
  unfold itemsD
  rw [pairs_enc, if_pos (by unfold encI; rw [List.length_map]; omega)]
  have ok : (okSort (l.map ptD) && noLs (l.map ptD)) = true := by
    have h2 : ∀ l : List Pt, noLs (l.map ptD) = true := fun l => by
      induction l with
      | nil => rfl
      | cons p r ih => rw [List.map_cons, noLs, ih]; simp [noL, noLs]
    rw [h2, Bool.and_true]
    unfold okSort
    simp only [Bool.and_eq_true, Bool.or_eq_true, List.all_eq_true, List.mem_map, decide_eq_true_eq, List.length_map]
    refine ⟨?_, .inl ?_, ?_, by omega⟩
    · rintro _ ⟨p, _, rfl⟩ _ ⟨q, _, rfl⟩
      simp [PySem.W.alike, PySem.W.alikeAll]
    · rintro _ ⟨p, _, rfl⟩
      rfl
    · rintro _ ⟨p, _, rfl⟩
      simp [PyData.depth, PyData.depthAll]
  show (if (okSort (l.map ptD) && noLs (l.map ptD)) = true then some (sortD (l.map ptD)) else none) = _
  rw [if_pos ok, sort_pts]
theorem sorted_up {l : List Pt} (nd : (l.map (·.1)).Nodup) : (sortBy leP l).Pairwise fun p q => p.1 < q.1 := by
  have h1 := sortBy_sorted leP_tr leP_to l
  have h2 : ((sortBy leP l).map (·.1)).Nodup := ((sortBy_perm (le := leP) l).map _).nodup_iff.mpr nd
  have h3 : (sortBy leP l).Pairwise fun p q => p.1 ≠ q.1 := List.pairwise_map.mp h2
  refine (h1.and h3).imp fun {p q} ⟨a, b⟩ => ?_
  unfold leP at a
  simp only [decide_eq_true_eq] at a
  omega
theorem r_points (a b : Int) (T : Store) : ∃ pts a' b', Pts pts ∧ run1 m__law_some_points 0 [.int 14, .int 60] (cup a b :: T) = .ok (.d (.tuple (pts.map ptD))) (cup a' b' :: T) := by
  obtain ⟨n, a1, b1, n0, n1, e1⟩ := r_roll a b 15 [.dic (encI [])] (by omega) (by omega)
  obtain ⟨l, a2, b2, x4, h, e2⟩ := loop_points 60 (by omega) (some (.d (.int 14))) ((List.range n.toNat).map fun k : Nat => PyData.int (k : Int)) 0 [] a1 b1 none ⟨by simp, by simp, by simp⟩ (by simp; omega)
  have hl : l.length ≤ 14 := by have := h.len; simp at this; omega
  have hz : sizeLine = 16777216 := by decide
  refine ⟨sortBy leP l, a2, b2, ⟨?_, sorted_up h.nd, fun p hp => h.bd p ((sortBy_perm l).mem_iff.mp hp)⟩, run1_ok (S := cup a b :: T) (T := [.dic (encI l)]) rfl ?_⟩
  · rw [(sortBy_perm (le := leP) l).length_eq]; exact hl
  · unfold m__law_some_points
    rw [fnR_ev]
    have e1' : run1 m__law_roll 0 [.int 15] [cup a b, .dic []] = .ok (.d (.int n)) [cup a1 b1, .dic (encI [])] := e1
    have hr := range1_nat (j := n) n0 (by omega)
    have it := items_enc l (by omega)
    have hs : sitR (.ref 1) [cup a2 b2, .dic (encI l)] = .ok ((sortBy leP l).map ptD) [cup a2 b2, .dic (encI l)] := sitR_ref rfl it
    simp [startR, e1', hr, e2, hs]
/-! a cell of points fits -/
theorem sum_bd (lo hi : Int) : ∀ l : List Int, (∀ x ∈ l, lo ≤ x ∧ x ≤ hi) → (l.length : Int) * lo ≤ l.sum ∧ l.sum ≤ (l.length : Int) * hi
  | [], _ => by simp
  | x :: r, h => by
    have h1 := sum_bd lo hi r fun y hy => h y (List.mem_cons_of_mem _ hy)
    have h2 := h x List.mem_cons_self
    rw [List.length_cons, List.sum_cons]
    have e1 : ((r.length + 1 : Nat) : Int) * lo = (r.length : Int) * lo + lo := by rw [Int.natCast_add, Int.add_mul]; simp
    have e2 : ((r.length + 1 : Nat) : Int) * hi = (r.length : Int) * hi + hi := by rw [Int.natCast_add, Int.add_mul]; simp
    rw [e1, e2]
    omega
theorem perm_sum {l m : List Int} (h : l.Perm m) : l.sum = m.sum := by
  induction h with
  | nil => rfl
  | cons x _ ih => rw [List.sum_cons, List.sum_cons, ih]
  | swap x y l => rw [List.sum_cons, List.sum_cons, List.sum_cons, List.sum_cons]; omega
  | trans _ _ h1 h2 => rw [h1, h2]
theorem app_sum : ∀ l m : List Int, (l ++ m).sum = l.sum + m.sum
  | [], m => by simp
  | x :: l, m => by rw [List.cons_append, List.sum_cons, List.sum_cons, app_sum l m]; omega
theorem split_off : ∀ (nd mid : List Int), nd.Nodup → (∀ x ∈ nd, x ∈ mid) → ∃ others, mid.Perm (nd ++ others)
  | [], mid, _, _ => ⟨mid, List.Perm.refl _⟩
  | x :: r, mid, h, hm => by
    obtain ⟨h1, h2⟩ := List.nodup_cons.mp h
    obtain ⟨others, ho⟩ := split_off r (mid.erase x) h2 fun y hy => (List.mem_erase_of_ne fun e => h1 (by rw [← e]; exact hy)).mpr (hm y (List.mem_cons_of_mem _ hy))
    exact ⟨others, (List.perm_cons_erase (hm x List.mem_cons_self)).trans (ho.cons x)⟩
theorem fitsR_ok (v0 vl lo hi : Int) (mid : List Int) (hlo : lo ∈ v0 :: mid ++ [vl]) (hhi : hi ∈ v0 :: mid ++ [vl]) (hb : ∀ x ∈ mid, lo ≤ x ∧ x ≤ hi) :
    fitsR ((mid.length : Int) + 2) v0 vl lo hi (v0 + mid.sum + vl) = true := by
  have nd : (needs v0 vl lo hi).Nodup := (List.Pairwise.imp (fun h => Int.ne_of_lt h) (sortU_lt [lo, hi])).filter _
  have sub : ∀ x ∈ needs v0 vl lo hi, x ∈ mid := fun x hx => by
    unfold needs at hx
    obtain ⟨h1, h2⟩ := List.mem_filter.mp hx
    have h3 := (sortU_mem x [lo, hi]).mp h1
    simp only [Bool.not_eq_true', Bool.or_eq_false_iff, decide_eq_false_iff_not] at h2
    have h4 : x ∈ v0 :: mid ++ [vl] := by
      rcases List.mem_cons.mp h3 with rfl | h3
      · exact hlo
      · rw [List.mem_singleton.mp h3]; exact hhi
    simp only [List.cons_append, List.mem_cons, List.mem_append, List.not_mem_nil, or_false] at h4
    rcases h4 with rfl | h4 | rfl
    · exact absurd rfl h2.1
    · exact h4
    · exact absurd rfl h2.2
  obtain ⟨others, ho⟩ := split_off _ mid nd sub
  have e1 := ho.length_eq
  have e2 : mid.sum = (needs v0 vl lo hi).sum + others.sum := by rw [perm_sum ho, app_sum]
  have e3 := sum_bd lo hi others fun x hx => hb x (ho.mem_iff.mpr (List.mem_append_right _ hx))
  rw [List.length_append] at e1
  unfold fitsR restC baseC
  have e4 : (mid.length : Int) + 2 - 2 - ((needs v0 vl lo hi).length : Int) = (others.length : Int) := by omega
  rw [e4]
  simp only [Bool.and_eq_true, decide_eq_true_eq]
  omega
theorem up_len : ∀ (p : Pt) (r : List Pt), (p :: r).Pairwise (fun p q => p.1 < q.1) → (r.length : Int) ≤ ((p :: r).getLastD (0, 0)).1 - p.1
  | p, [], _ => by simp [List.getLastD]
  | p, q :: r, h => by
    obtain ⟨h1, h2⟩ := List.pairwise_cons.mp h
    have ih := up_len q r h2
    have h3 := h1 q List.mem_cons_self
    have e : (p :: q :: r).getLastD (0, 0) = (q :: r).getLastD (0, 0) := by simp [List.getLastD_cons]
    rw [e, List.length_cons]
    omega
structure Ch (pts : List Pt) : Prop where
  ne : pts ≠ []
  len : pts.length ≤ 14
  up : pts.Pairwise fun p q => p.1 < q.1
  bd : ∀ p ∈ pts, 0 ≤ p.1 ∧ p.1 < 60 ∧ -20 ≤ p.2 ∧ p.2 ≤ 20
theorem Ch.fits {pts : List Pt} (h : Ch pts) : (cellOf pts).fits = true := by
  obtain ⟨ne, len, up, bd⟩ := h
  cases pts with
  | nil => exact absurd rfl ne
  | cons p r =>
    have hlast : (p :: r).getLastD (0, 0) ∈ p :: r := by
      rw [List.getLastD_eq_getLast?, List.getLast?_eq_some_getLast (by simp)]
      exact List.getLast_mem (by simp)
    have b1 := bd p List.mem_cons_self
    have b2 := bd _ hlast
    have hu := up_len p r up
    obtain ⟨l1, l2⟩ := minI_spec p.2 (r.map (·.2))
    obtain ⟨m1, m2⟩ := maxI_spec p.2 (r.map (·.2))
    have lb : ∀ x ∈ p.2 :: r.map (·.2), -20 ≤ x ∧ x ≤ 20 := fun x hx => by
      obtain ⟨q, hq, rfl⟩ := List.mem_map.mp (show x ∈ (p :: r).map (·.2) from hx)
      have := bd q hq
      omega
    have q1 := lb _ l1
    have q2 := lb _ m1
    have q3 := l2 p.2 List.mem_cons_self
    have q4 := m2 p.2 List.mem_cons_self
    have hl2 : ((p :: r).getLastD (0, 0)).2 ∈ p.2 :: r.map (·.2) := List.mem_map.mpr ⟨_, hlast, rfl⟩
    have q5 := l2 _ hl2
    have q6 := m2 _ hl2
    have len' : r.length + 1 ≤ 14 := len
    show fitsC ((r.length + 1 : Nat) : Int) p ((p :: r).getLastD (0, 0)) (minI (p.2 :: r.map (·.2))) (maxI (p.2 :: r.map (·.2))) (p.2 :: r.map (·.2)).sum = true
    rw [List.sum_cons]
    have f1 : fitsP p = true := by unfold fitsP; simp; omega
    have f2 : fitsP ((p :: r).getLastD (0, 0)) = true := by unfold fitsP; simp only [Bool.and_eq_true, decide_eq_true_eq]; omega
    generalize hz : (p :: r).getLastD (0, 0) = z at *
    generalize hlo : minI (p.2 :: r.map (·.2)) = lo at *
    generalize hhi : maxI (p.2 :: r.map (·.2)) = hi at *
    unfold fitsC
    rw [f1, f2]
    simp only [Bool.and_eq_true, decide_eq_true_eq]
    refine ⟨by omega, trivial, trivial, by omega, by omega, by omega, ?_⟩
    cases r with
    | nil =>
      have e1 : z = p := hz.symm
      have e2 : lo = p.2 := hlo.symm
      have e3 : hi = p.2 := hhi.symm
      simp [e1, e2, e3]
    | cons q r =>
      have hn : ¬ (((q :: r).length + 1 : Nat) : Int) = 1 := by simp; omega
      rw [if_neg hn]
      have hne : (q :: r) ≠ [] := by simp
      have e1 : (q :: r) = (q :: r).dropLast ++ [z] := by
        have := List.dropLast_concat_getLast hne
        have e2 : (q :: r).getLast hne = z := by rw [← hz, List.getLastD_cons, List.getLastD_eq_getLast?, List.getLast?_eq_some_getLast hne]; rfl
        rw [e2] at this
        exact this.symm
      have e3 : (q :: r).map (·.2) = ((q :: r).dropLast.map (·.2)) ++ [z.2] := by
        conv => lhs; rw [e1]
        simp
      generalize (q :: r).dropLast.map (·.2) = mid at e3
      rw [e3] at l1 l2 m1 m2 ⊢
      have e4 : (((q :: r).length + 1 : Nat) : Int) = (mid.length : Int) + 2 := by
        have := congrArg List.length e3
        simp at this ⊢
        omega
      have e5 : p.2 + (mid ++ [z.2]).sum = p.2 + mid.sum + z.2 := by rw [app_sum]; simp; omega
      rw [e4, e5]
      exact fitsR_ok p.2 z.2 lo hi mid l1 m1 fun x hx => ⟨l2 x (by simp [hx]), m2 x (by simp [hx])⟩
/-! joined cells -/
theorem minI_app (x : Int) (m : List Int) (y : Int) : ∀ (l : List Int), minI ((x :: l) ++ (y :: m)) = min (minI (x :: l)) (minI (y :: m)) := fun l => by
  obtain ⟨a1, a2⟩ := minI_spec x (l ++ y :: m)
  obtain ⟨b1, b2⟩ := minI_spec x l
  obtain ⟨c1, c2⟩ := minI_spec y m
  have d1 := a2 _ (show minI (x :: l) ∈ x :: (l ++ y :: m) by
    rcases List.mem_cons.mp b1 with h | h
    · rw [h]; exact List.mem_cons_self
    · exact List.mem_cons_of_mem _ (List.mem_append_left _ h))
  have d2 := a2 _ (show minI (y :: m) ∈ x :: (l ++ y :: m) from List.mem_cons_of_mem _ (List.mem_append_right _ c1))
  rw [List.cons_append]
  have d3 : minI (x :: l) ≤ minI (x :: (l ++ y :: m)) ∨ minI (y :: m) ≤ minI (x :: (l ++ y :: m)) := by
    rcases List.mem_cons.mp a1 with h | h
    · rw [h]; exact .inl (b2 _ List.mem_cons_self)
    · rcases List.mem_append.mp h with h | h
      · exact .inl (b2 _ (List.mem_cons_of_mem _ h))
      · exact .inr (c2 _ h)
  omega
theorem maxI_app (x : Int) (m : List Int) (y : Int) : ∀ (l : List Int), maxI ((x :: l) ++ (y :: m)) = max (maxI (x :: l)) (maxI (y :: m)) := fun l => by
  obtain ⟨a1, a2⟩ := maxI_spec x (l ++ y :: m)
  obtain ⟨b1, b2⟩ := maxI_spec x l
  obtain ⟨c1, c2⟩ := maxI_spec y m
  have d1 := a2 _ (show maxI (x :: l) ∈ x :: (l ++ y :: m) by
    rcases List.mem_cons.mp b1 with h | h
    · rw [h]; exact List.mem_cons_self
    · exact List.mem_cons_of_mem _ (List.mem_append_left _ h))
  have d2 := a2 _ (show maxI (y :: m) ∈ x :: (l ++ y :: m) from List.mem_cons_of_mem _ (List.mem_append_right _ c1))
  rw [List.cons_append]
  have d3 : maxI (x :: (l ++ y :: m)) ≤ maxI (x :: l) ∨ maxI (x :: (l ++ y :: m)) ≤ maxI (y :: m) := by
    rcases List.mem_cons.mp a1 with h | h
    · rw [h]; exact .inl (b2 _ List.mem_cons_self)
    · rcases List.mem_append.mp h with h | h
      · exact .inl (b2 _ (List.mem_cons_of_mem _ h))
      · exact .inr (c2 _ h)
  omega
theorem join_app (p q : List Pt) (hp : p ≠ []) (hq : q ≠ []) : joinC (cellOf p) (cellOf q) = cellOf (p ++ q) := by
  cases p with
  | nil => exact absurd rfl hp
  | cons x p =>
    cases q with
    | nil => exact absurd rfl hq
    | cons y q =>
      unfold joinC cellOf
      have e1 : ((x :: p) ++ (y :: q)).getLastD (0, 0) = (y :: q).getLastD (0, 0) := by
        rw [List.getLastD_eq_getLast?, List.getLastD_eq_getLast?, List.getLast?_append]
        rw [List.getLast?_eq_some_getLast (l := y :: q) (by simp)]
        rfl
      have e2 := minI_app x.2 (q.map (·.2)) y.2 (p.map (·.2))
      have e3 := maxI_app x.2 (q.map (·.2)) y.2 (p.map (·.2))
      have e4 := app_sum ((x :: p).map (·.2)) ((y :: q).map (·.2))
      rw [e1, List.map_append, e4]
      simp only [List.map_cons, List.map_append] at e2 e3 ⊢
      rw [e2, e3]
      simp
      omega
theorem joinAll_some : ∀ (chs : List (List Pt)) (p : List Pt), p ≠ [] → (∀ c ∈ chs, c ≠ []) → joinAll (some (cellOf p)) (chs.map cellOf) = some (cellOf (p ++ chs.flatten))
  | [], p, _, _ => by simp [joinAll]
  | c :: chs, p, hp, h => by
    have hc := h c List.mem_cons_self
    rw [List.map_cons, joinAll, join_app p c hp hc, joinAll_some chs (p ++ c) (by simp [hp]) fun d hd => h d (List.mem_cons_of_mem _ hd)]
    simp
theorem joinAll_chs (chs : List (List Pt)) (h : ∀ c ∈ chs, c ≠ []) : joinAll none (chs.map cellOf) = optP chs.flatten := by
  cases chs with
  | nil => rfl
  | cons c chs =>
    have hc := h c List.mem_cons_self
    rw [List.map_cons, joinAll, joinAll_some chs c hc fun d hd => h d (List.mem_cons_of_mem _ hd), List.flatten_cons]
    cases c with
    | nil => exact absurd rfl hc
    | cons p c => rfl
/-! cells_joined -/
abbrev OC := Option (List Pt)
def oC (o : OC) : D := optC (o.map cellOf)
@[simp] theorem oC_none : oC none = .none := rfl
theorem oC_some (c : List Pt) : oC (some c) = cD (cellOf c) := rfl
structure Cs (cs : List OC) : Prop where
  len : cs.length ≤ 256
  ch : ∀ c, some c ∈ cs → Ch c
  up : (cs.filterMap id).flatten.Pairwise fun p q => p.1 < q.1
theorem filter_some : ∀ cs : List OC, (cs.filter Option.isSome).map oC = (cs.filterMap id).map fun c => cD (cellOf c)
  | [] => rfl
  | none :: cs => by simpa using filter_some cs
  | some c :: cs => by
    have := filter_some cs
    simp only [List.filter_cons, Option.isSome_some, if_true, List.map_cons, List.filterMap_cons, id_eq]
    rw [this]; rfl
theorem follow : ∀ (chs : List (List Pt)), (∀ c ∈ chs, c ≠ []) → chs.flatten.Pairwise (fun p q => p.1 < q.1) → ∀ p ∈ chs.zip (chs.drop 1), (cellOf p.1).b.1 < (cellOf p.2).a.1
  | [], _, _, p, hp => by simp at hp
  | [c], _, _, p, hp => by simp at hp
  | c :: d :: chs, hne, hp, p, hm => by
    rw [List.flatten_cons, List.pairwise_append] at hp
    obtain ⟨_, h2, h3⟩ := hp
    have hm' : p ∈ (c, d) :: (d :: chs).zip ((d :: chs).drop 1) := by simpa using hm
    rcases List.mem_cons.mp hm' with rfl | hm'
    · have hc := hne c List.mem_cons_self
      have hd := hne d (List.mem_cons_of_mem _ List.mem_cons_self)
      refine h3 _ ?_ _ ?_
      · show c.getLastD (0, 0) ∈ c
        rw [List.getLastD_eq_getLast?, List.getLast?_eq_some_getLast hc]
        exact List.getLast_mem hc
      · show d.headD (0, 0) ∈ _
        cases d with
        | nil => exact absurd rfl hd
        | cons x d => simp
    · exact follow (d :: chs) (fun c' hc => hne c' (List.mem_cons_of_mem _ hc)) h2 p hm'
theorem ch_mem {cs : List OC} (h : Cs cs) : ∀ c ∈ cs.filterMap id, Ch c := fun c hc => by
  obtain ⟨o, ho, e⟩ := List.mem_filterMap.mp hc
  cases o with
  | none => cases e
  | some d => cases e; exact h.ch _ ho
theorem all_fit (cs : List OC) (h : Cs cs) (ρ : Pi.Env) (i : Nat) (hi : i < ρ.length) : lcLoop ρ (gN i) mYes (mOrV (mOp2 isND (mVar i) (mD .none)) (mCallP m_fits_cell (mCons (mVar i) mNil))) (cs.map oC) [] = .ok (cs.map fun _ => .bool true) [] := by
  refine lc_all oC fun o ho => ⟨ρ.set i (some (.d (oC o))), rfl, ?_⟩
  have e : (ρ.set i (some (R.d (oC o))))[i]? = some (some (.d (oC o))) := List.getElem?_set_self hi
  cases o with
  | none =>
    rw [oC_none] at e
    simp [e]
  | some c =>
    have f : fitsC (cellOf c).n (cellOf c).a (cellOf c).b (cellOf c).lo (cellOf c).hi (cellOf c).s = true := (h.ch c ho).fits
    rw [oC_some] at e
    simp [oC_some, e, p_fits_cell, f]
theorem p_cells_joined (cs : List OC) (h : Cs cs) (S : Store) : runP m_cells_joined [.tuple (cs.map oC)] S = .ok (.d (optC (optP (cs.filterMap id).flatten))) S := by
  have hz : sizeLine = 16777216 := by decide
  have hlen := h.len
  refine runP_ok (S' := []) S ?_
  unfold m_cells_joined
  rw [fnR_ev]
  have hall := allD1_const cs
  have l1 : (cs.map fun _ => PyData.bool true).length ≤ 16777216 := by rw [List.length_map]; omega
  have a1 := all_fit cs h [some (.d (.tuple (cs.map oC))), none, none, none, none] 2 (by simp)
  have a2 : lcLoop [some (.d (.tuple (cs.map oC))), none, none, none, none] (gN 2) (mB (mOp2 notND (mVar 2) (mD .none))) (mVar 2) (cs.map oC) [] = .ok ((cs.filterMap id).map fun c => cD (cellOf c)) [] := by
    rw [← filter_some]
    refine lc_of oC fun o ho => ⟨[some (.d (.tuple (cs.map oC))), none, some (.d (oC o)), none, none], rfl, ?_, fun _ => by simp⟩
    cases o with
    | none => simp
    | some c => simp [oC_some]
  have l2 : ((cs.filterMap id).map fun c => cD (cellOf c)).length ≤ 16777216 := by
    rw [List.length_map]
    have := List.length_filterMap_le id cs
    omega
  have hne : ∀ c ∈ cs.filterMap id, c ≠ [] := fun c hc => (ch_mem h c hc).ne
  have hf := follow _ hne h.up
  have hj := joinAll_chs _ hne
  have l3 : ((cs.filterMap id).zip ((cs.filterMap id).drop 1)).length ≤ 16777216 := by
    rw [List.length_zip]
    have := List.length_filterMap_le id cs
    omega
  have pj := p_joined_all ((cs.filterMap id).map cellOf) []
  rw [hj, List.map_map] at pj
  have pj' : runP m_joined_all [.list ((cs.filterMap id).map fun c => cD (cellOf c))] [] = .ok (.d (optC (optP (cs.filterMap id).flatten))) [] := pj
  generalize hq : cs.filterMap id = chs at *
  have hzip : zip2 [.list (chs.map fun c => cD (cellOf c)), .list ((chs.map fun c => cD (cellOf c)).drop 1)] = some ((chs.zip (chs.drop 1)).map fun p => .tuple [cD (cellOf p.1), cD (cellOf p.2)]) := by
    show some (zipD _ _) = _
    rw [← List.map_drop, zipD_map]
  have a3 : ∀ x2, lcLoop [some (.d (.tuple (cs.map oC))), some (.d (.list (chs.map fun c => cD (cellOf c)))), x2, none, none] (gT [gN 3, gN 4]) mYes (mOp2 ltD (mOp2 ixD (mOp2 ixD (mVar 3) (mD (.int 2))) (mD (.int 0))) (mOp2 ixD (mOp2 ixD (mVar 4) (mD (.int 1))) (mD (.int 0))))
      ((chs.zip (chs.drop 1)).map fun p => PyData.tuple [cD (cellOf p.1), cD (cellOf p.2)]) [] = .ok ((chs.zip (chs.drop 1)).map fun _ => .bool true) [] := fun x2 => by
    refine lc_all (fun p : List Pt × List Pt => PyData.tuple [cD (cellOf p.1), cD (cellOf p.2)]) fun p hp => ⟨[some (.d (.tuple (cs.map oC))), some (.d (.list (chs.map fun c => cD (cellOf c)))), x2, some (.d (cD (cellOf p.1))), some (.d (cD (cellOf p.2)))], rfl, ?_⟩
    have := hf p hp
    simp [this]
  have hall3 := allD1_const (chs.zip (chs.drop 1))
  have l4 : ((chs.zip (chs.drop 1)).map fun _ => PyData.bool true).length ≤ 16777216 := by rw [List.length_map]; exact l3
  have c1 : sliceD (.list (chs.map fun c => cD (cellOf c))) (some 1) none = some (.list ((chs.map fun c => cD (cellOf c)).drop 1)) := by
    show some (PyData.list (cutD _ _ _)) = _
    rw [cut1]
  have hlen' : (cs.length : Int) ≤ 256 := by omega
  generalize (cs.map fun _ => PyData.bool true) = L1 at *
  generalize (chs.map fun c => cD (cellOf c)) = L2 at *
  generalize hL4 : ((chs.zip (chs.drop 1)).map fun _ => PyData.bool true) = L4 at *
  generalize ((chs.zip (chs.drop 1)).map fun p => PyData.tuple [cD (cellOf p.1), cD (cellOf p.2)]) = L3 at *
  rw [List.drop_one] at hzip c1
  simp [startR, p_tuple_of, hlen', a1, hz, l1, hall, a2, l2, c1, hzip, a3, l4, hall3, pj']
/-! corners -/
def opt1 (b : Prop) [Decidable b] (x : D) : List D := if b then [] else [x]
def cornC (i : Int) (c : CT) : List D := ptD (i, c.a.2) :: (opt1 (c.lo = c.a.2) (ptD (i, c.lo)) ++ (opt1 (c.hi = c.lo) (ptD (i, c.hi)) ++ opt1 (c.b.2 = c.hi) (ptD (i, c.b.2))))
theorem ne_pt (p q : Pt) : neD (ptD p) (ptD q) = some (.bool (!decide (p = q))) := by
  have := eq_pt p q
  unfold eqD at this
  unfold neD
  cases h : eqB (ptD p) (ptD q) with
  | none => rw [h] at this; cases this
  | some k =>
    rw [h] at this
    have e : k = decide (p = q) := by simpa using this
    rw [e]; rfl
theorem ne_pt' (i x y : Int) : neD (.tuple [.int i, .int x]) (.tuple [.int i, .int y]) = some (.bool (!decide (x = y))) := by
  have := ne_pt (i, x) (i, y)
  simpa using this
theorem rows_keep (i w x y z : Int) (x0 x1 x2 x3 x5 : Option R) (S : Store) :
    lcLoop [x0, x1, x2, x3, some (.d (.list [ptD (i, w), ptD (i, x), ptD (i, y), ptD (i, z)])), x5, none, none] (gT [gN 6, gN 7]) (mOrT (mB (mOp2 eqD (mVar 6) (mD (.int 0)))) (mB (mOp2 neD (mVar 7) (mOp2 ixD (mVar 4) (mOp2 subD (mVar 6) (mD (.int 1))))))) (mVar 7)
      (enumD 0 [ptD (i, w), ptD (i, x), ptD (i, y), ptD (i, z)]) S = .ok (ptD (i, w) :: (opt1 (x = w) (ptD (i, x)) ++ (opt1 (y = x) (ptD (i, y)) ++ opt1 (z = y) (ptD (i, z))))) S := by
  by_cases h1 : x = w <;> by_cases h2 : y = x <;> by_cases h3 : z = y <;> simp [enumD_cons, enumD, lcLoop_cons, ne_pt', opt1, h1, h2, h3] <;> split <;> simp
def cornL (i : Nat) : List OC → List D
  | [] => []
  | none :: cs => cornL (i + 1) cs
  | some c :: cs => cornC i (cellOf c) ++ cornL (i + 1) cs
theorem cornC_len (i : Int) (c : CT) : (cornC i c).length ≤ 4 := by
  unfold cornC opt1
  simp only [List.length_cons, List.length_append]
  split <;> split <;> split <;> simp
theorem cornL_len : ∀ (cs : List OC) (i : Nat), (cornL i cs).length ≤ 4 * cs.length
  | [], _ => Nat.le_refl _
  | none :: cs, i => by have := cornL_len cs (i + 1); show (cornL (i + 1) cs).length ≤ _; simp; omega
  | some c :: cs, i => by
    have h1 := cornL_len cs (i + 1)
    have h2 := cornC_len i (cellOf c)
    show (cornC i (cellOf c) ++ cornL (i + 1) cs).length ≤ _
    rw [List.length_append, List.length_cons]
    omega
theorem loop_corners (x0 : Option R) : ∀ (cs : List OC) (i : Nat) (acc : List D) (x2 x3 x4 x5 : Option R), acc.length + 4 * cs.length ≤ 100000 → ∃ x2' x3' x4' x5',
    forLoop (gT [gN 2, gN 3]) (mIf (mB (mOp2 notND (mVar 3) (mD .none)))
      (mSeq (mAsg (gN 4) (mFrz (mLc (mItS (mTup (mCons (mOp2 ixD (mOp2 ixD (mVar 3) (mD (.int 1))) (mD (.int 1))) (mCons (mOp2 ixD (mVar 3) (mD (.int 3))) (mCons (mOp2 ixD (mVar 3) (mD (.int 4))) (mCons (mOp2 ixD (mOp2 ixD (mVar 3) (mD (.int 2))) (mD (.int 1))) mNil)))))) [5] (gN 5) mYes (mTup (mCons (mVar 2) (mCons (mVar 5) mNil))))))
        (mExt 1 (mLc (mItA enum1 (mCons (mVar 4) mNil)) [6, 7] (gT [(gN 6), (gN 7)]) (mOrT (mB (mOp2 eqD (mVar 6) (mD (.int 0)))) (mB (mOp2 neD (mVar 7) (mOp2 ixD (mVar 4) (mOp2 subD (mVar 6) (mD (.int 1))))))) (mVar 7))))
      mSkip) (enumD i (cs.map oC)) [x0, some (.ref 0), x2, x3, x4, x5, none, none] [.lst acc] = .nx [x0, some (.ref 0), x2', x3', x4', x5', none, none] [.lst (acc ++ cornL i cs)]
  | [], i, acc, x2, x3, x4, x5, _ => ⟨x2, x3, x4, x5, by simp [enumD, cornL]⟩
  | none :: cs, i, acc, x2, x3, x4, x5, h => by
    obtain ⟨y2, y3, y4, y5, ih⟩ := loop_corners x0 cs (i + 1) acc (some (.d (.int i))) (some (.d .none)) x4 x5 (by simp at h; omega)
    refine ⟨y2, y3, y4, y5, ?_⟩
    rw [List.map_cons, enumD_cons, forLoop_cons]
    simp [ih, cornL]
  | some c :: cs, i, acc, x2, x3, x4, x5, h => by
    have hz : sizeLine = 16777216 := by decide
    have hc4 := cornC_len i (cellOf c)
    obtain ⟨y2, y3, y4, y5, ih⟩ := loop_corners x0 cs (i + 1) (acc ++ cornC i (cellOf c)) (some (.d (.int i))) (some (.d (cD (cellOf c)))) (some (.d (.list [ptD (i, (cellOf c).a.2), ptD (i, (cellOf c).lo), ptD (i, (cellOf c).hi), ptD (i, (cellOf c).b.2)]))) x5 (by rw [List.length_append]; simp at h; omega)
    refine ⟨y2, y3, y4, y5, ?_⟩
    rw [List.map_cons, enumD_cons, forLoop_cons]
    have e := rows_keep i (cellOf c).a.2 (cellOf c).lo (cellOf c).hi (cellOf c).b.2 x0 (some (.ref 0)) (some (.d (.int i))) (some (.d (cD (cellOf c)))) x5 [.lst acc]
    have hl : (ptD (i, (cellOf c).a.2) :: (opt1 ((cellOf c).lo = (cellOf c).a.2) (ptD (i, (cellOf c).lo)) ++ (opt1 ((cellOf c).hi = (cellOf c).lo) (ptD (i, (cellOf c).hi)) ++ opt1 ((cellOf c).b.2 = (cellOf c).hi) (ptD (i, (cellOf c).b.2))))).length ≤ 16777216 := by
      have : (cornC i (cellOf c)).length ≤ 16777216 := by omega
      exact this
    have ex := mExt_at (i := 1) (n := 0) (ρ := [x0, some (.ref 0), some (.d (.int i)), some (.d (cD (cellOf c))), some (.d (.list [ptD (i, (cellOf c).a.2), ptD (i, (cellOf c).lo), ptD (i, (cellOf c).hi), ptD (i, (cellOf c).b.2)])), x5, none, none])
      (l := mLc (mItA enum1 (mCons (mVar 4) mNil)) [6, 7] (gT [(gN 6), (gN 7)]) (mOrT (mB (mOp2 eqD (mVar 6) (mD (.int 0)))) (mB (mOp2 neD (mVar 7) (mOp2 ixD (mVar 4) (mOp2 subD (mVar 6) (mD (.int 1))))))) (mVar 7)) (S := [.lst acc]) (S1 := [.lst acc]) (ds := cornC i (cellOf c)) (xs := acc) rfl
      (by
        simp only [mLc_ev, mItA_ev, mCons_ev, mVar_ev, mNil_ev, Res.bind_ok]
        simp [enum1_lst, e, hz]
        simp at hl
        rw [if_pos hl]
        rfl) rfl (by rw [hz]; simp at h; omega)
    simp [oC_some, lcLoop_cons, hz, ex, ih, cornL]
theorem p_corners (cs : List OC) (h : Cs cs) (S : Store) : runP m_corners [.tuple (cs.map oC)] S = .ok (.d (.tuple (cornL 0 cs))) S := by
  have hz : sizeLine = 16777216 := by decide
  have hlen := h.len
  obtain ⟨y2, y3, y4, y5, hL⟩ := loop_corners (some (.d (.tuple (cs.map oC)))) cs 0 [] none none none none (by simp; omega)
  refine runP_ok (S' := [.lst (cornL 0 cs)]) S ?_
  unfold m_corners
  rw [fnR_ev]
  have hall := allD1_const cs
  have l1 : (cs.map fun _ => PyData.bool true).length ≤ 16777216 := by rw [List.length_map]; omega
  have a1 := all_fit cs h [some (.d (.tuple (cs.map oC))), none, none, none, none, none, none, none] 3 (by simp)
  have hlen' : (cs.length : Int) ≤ 256 := by omega
  have hr : rd [Cell.lst (cornL 0 cs)] (.ref 0) = some (.list (cornL 0 cs)) := rfl
  generalize (cs.map fun _ => PyData.bool true) = L1 at *
  rw [List.nil_append] at hL
  simp [startR, p_tuple_of, hlen', a1, hz, l1, hall, enum1_tup, hL, hr]
/-! cover -/
theorem loop_power (S : Store) (x0 : Option R) : ∀ (k : Nat) (f : Int) (ds : List D) (x2 : Option R), ds.length = k → ∃ x2', forLoop (gN 2) (mAsg (gN 1) (mOp2 mulD (mD (.int 2)) (mVar 1))) ds [x0, some (.d (.int f)), x2] S = .nx [x0, some (.d (.int (2 ^ k * f))), x2'] S
  | 0, f, [], x2, _ => ⟨x2, by simp⟩
  | k + 1, f, d :: ds, x2, h => by
    have m1 : mulD (.int 2) (.int f) = some (.int (2 * f)) := mulD_int (mulOk_l (by omega))
    obtain ⟨x2', ih⟩ := loop_power S x0 k (2 * f) ds (some (.d d)) (by simpa using h)
    refine ⟨x2', ?_⟩
    rw [forLoop_cons]
    have e : (2 : Int) ^ k * (2 * f) = 2 ^ (k + 1) * f := by rw [Int.pow_succ, Int.mul_assoc]
    simp [m1, ih, e]
theorem p_power (k : Nat) (h : k ≤ 1000) (S : Store) : runP m_power [.int k] S = .ok (.d (.int (2 ^ k))) S := by
  refine runP_ok (S' := []) S ?_
  unfold m_power
  rw [fnR_ev]
  obtain ⟨x2', e⟩ := loop_power [] (some (.d (.int k))) k 1 ((List.range k).map fun j : Nat => PyData.int (j : Int)) none (by simp)
  have hr := range1_nat (j := (k : Int)) (by omega) (by omega)
  rw [Int.toNat_natCast] at hr
  generalize ((List.range k).map fun j : Nat => PyData.int (j : Int)) = J at *
  rw [Int.mul_one] at e
  simp [startR, hr, e]
def upB (a last l : Nat) : Bool := decide (a % 2 ^ (l + 1) = 0) && decide (a + 2 ^ (l + 1) ≤ last + 1)
def levG (a last : Nat) : Nat → Nat → Nat
  | 0, l => l
  | k + 1, l => if upB a last l then levG a last k (l + 1) else l
theorem p_power1 (l : Nat) (h : l < 100) (S : Store) : runP m_power [.int ((l : Int) + 1)] S = .ok (.d (.int (2 ^ (l + 1)))) S := by
  have e : (l : Int) + 1 = ((l + 1 : Nat) : Int) := by omega
  rw [e]
  exact p_power (l + 1) (by omega) S
theorem up_cond (a last l : Nat) (hl : l ≤ 20) (x0 x2 : Option R) (S : Store) :
    (mAndT (mB (mOp2 ltD (mOp2 addD (mVar 4) (mD (.int 1))) (mD (.int 51)))) (mAndT (mB (mOp2 eqD (mOp2 modD (mVar 3) (mCallP m_power (mCons (mOp2 addD (mVar 4) (mD (.int 1))) mNil))) (mD (.int 0)))) (mB (mOp2 leD (mOp2 subD (mOp2 addD (mVar 3) (mCallP m_power (mCons (mOp2 addD (mVar 4) (mD (.int 1))) mNil))) (mD (.int 1))) (mVar 1)))))
      [x0, some (.d (.int last)), x2, some (.d (.int a)), some (.d (.int l))] S = .ok (upB a last l) S := by
  have h1 : (l : Int) + 1 < 51 := by omega
  have hp := p_power1 l (by omega) S
  have hpos : (0 : Int) < 2 ^ (l + 1) := Int.pow_pos (by omega)
  have hm : modD (.int (a : Int)) (.int (2 ^ (l + 1))) = some (.int ((a : Int) % 2 ^ (l + 1))) := modD_int hpos
  have e1 : ((a : Int) % 2 ^ (l + 1) = 0) ↔ (a % 2 ^ (l + 1) = 0) := by
    have : ((a : Int) % 2 ^ (l + 1)) = ((a % 2 ^ (l + 1) : Nat) : Int) := by simp
    rw [this]; omega
  have e2 : ((a : Int) + 2 ^ (l + 1) - 1 ≤ last) ↔ (a + 2 ^ (l + 1) ≤ last + 1) := by
    have : ((2 : Int) ^ (l + 1)) = ((2 ^ (l + 1) : Nat) : Int) := by simp
    rw [this]; omega
  unfold upB
  by_cases c1 : a % 2 ^ (l + 1) = 0
  · by_cases c2 : a + 2 ^ (l + 1) ≤ last + 1
    · simp [h1, hp, hm, e1.mpr c1, e2.mpr c2, c1, c2]
    · have c2' : ¬ ((a : Int) + 2 ^ (l + 1) - 1 ≤ last) := fun h => c2 (e2.mp h)
      simp [h1, hp, hm, e1.mpr c1, c2', c1, c2]
  · have c1' : ¬ ((a : Int) % 2 ^ (l + 1) = 0) := fun h => c1 (e1.mp h)
    simp [h1, hp, hm, c1', c1]
theorem loop_up (a last : Nat) (hb : last < 1000) (x0 x2 : Option R) (S : Store) : ∀ (k l n : Nat), l + k = 20 → k + 1 ≤ n → whileLoop (mAndT (mB (mOp2 ltD (mOp2 addD (mVar 4) (mD (.int 1))) (mD (.int 51)))) (mAndT (mB (mOp2 eqD (mOp2 modD (mVar 3) (mCallP m_power (mCons (mOp2 addD (mVar 4) (mD (.int 1))) mNil))) (mD (.int 0)))) (mB (mOp2 leD (mOp2 subD (mOp2 addD (mVar 3) (mCallP m_power (mCons (mOp2 addD (mVar 4) (mD (.int 1))) mNil))) (mD (.int 1))) (mVar 1)))))
    (mAsg (gN 4) (mOp2 addD (mVar 4) (mD (.int 1)))) n [x0, some (.d (.int last)), x2, some (.d (.int a)), some (.d (.int l))] S = .nx [x0, some (.d (.int last)), x2, some (.d (.int a)), some (.d (.int (levG a last k l)))] S := by
  intro k
  induction k with
  | zero =>
    intro l n hl hn
    obtain ⟨n, rfl⟩ : ∃ m, n = m + 1 := ⟨n - 1, by omega⟩
    have hu : upB a last l = false := by
      have e : l = 20 := by omega
      subst e
      have : ¬ (a + 2 ^ 21 ≤ last + 1) := by omega
      unfold upB
      simp [this]
    rw [whileLoop_succ, up_cond a last l (by omega), hu]
    rfl
  | succ k ih =>
    intro l n hl hn
    obtain ⟨n, rfl⟩ : ∃ m, n = m + 1 := ⟨n - 1, by omega⟩
    rw [whileLoop_succ, up_cond a last l (by omega)]
    cases hu : upB a last l with
    | false => simp [levG, hu]
    | true =>
      have e : ((l : Int) + 1) = ((l + 1 : Nat) : Int) := by omega
      have ih' := ih (l + 1) n (by omega) (by omega)
      simp [levG, hu] at ih' ⊢
      exact ih'
theorem levG_le (a last : Nat) : ∀ (k l : Nat), levG a last k l ≤ l + k
  | 0, l => Nat.le_refl _
  | k + 1, l => by
    unfold levG
    split
    · have := levG_le a last k (l + 1); omega
    · omega
def lev (a last : Nat) : Nat := levG a last 20 0
def coverL (last : Nat) : Nat → Nat → List (Nat × Nat)
  | 0, _ => []
  | f + 1, a => if a ≤ last then (lev a last, a / 2 ^ lev a last) :: coverL last f (a + 2 ^ lev a last) else []
abbrev lpD (p : Nat × Nat) : D := .tuple [.int p.1, .int p.2]
theorem mWhile_ev (n : Nat) (c : TM) (b : SM) (ρ : Pi.Env) (S : Store) : mWhile n c b ρ S = whileLoop c b n ρ S := rfl
theorem loop_cover (last : Nat) (hb : last < 1000) (x0 : Option R) : ∀ (f a n : Nat) (acc : List D) (x4 : Option R), last + 1 ≤ a + f → f + 1 ≤ n → acc.length + f ≤ 100000 → ∃ a' x4',
    whileLoop (mB (mOp2 leD (mVar 3) (mVar 1)))
      (mSeq (mAsg (gN 4) (mD (.int 0)))
      (mSeq (mWhile 300 (mAndT (mB (mOp2 ltD (mOp2 addD (mVar 4) (mD (.int 1))) (mD (.int 51)))) (mAndT (mB (mOp2 eqD (mOp2 modD (mVar 3) (mCallP m_power (mCons (mOp2 addD (mVar 4) (mD (.int 1))) mNil))) (mD (.int 0)))) (mB (mOp2 leD (mOp2 subD (mOp2 addD (mVar 3) (mCallP m_power (mCons (mOp2 addD (mVar 4) (mD (.int 1))) mNil))) (mD (.int 1))) (mVar 1)))))
      (mAsg (gN 4) (mOp2 addD (mVar 4) (mD (.int 1)))))
      (mSeq (mExpr (mApp (mVar 2) (mTup (mCons (mVar 4) (mCons (mOp2 divD (mVar 3) (mCallP m_power (mCons (mVar 4) mNil))) mNil)))))
      (mAsg (gN 3) (mOp2 addD (mVar 3) (mCallP m_power (mCons (mVar 4) mNil))))))) n [x0, some (.d (.int last)), some (.ref 0), some (.d (.int a)), x4] [.lst acc]
      = .nx [x0, some (.d (.int last)), some (.ref 0), a', x4'] [.lst (acc ++ (coverL last f a).map lpD)] := by
  intro f
  induction f with
  | zero =>
    intro a n acc x4 h1 h2 h3
    obtain ⟨n, rfl⟩ : ∃ m, n = m + 1 := ⟨n - 1, by omega⟩
    refine ⟨some (.d (.int a)), x4, ?_⟩
    rw [whileLoop_succ]
    have : ¬ ((a : Int) ≤ last) := by omega
    simp [this, coverL]
  | succ f ih =>
    intro a n acc x4 h1 h2 h3
    obtain ⟨n, rfl⟩ : ∃ m, n = m + 1 := ⟨n - 1, by omega⟩
    by_cases hc : a ≤ last
    · have hl : lev a last ≤ 20 := by have := levG_le a last 20 0; unfold lev; omega
      have hup := loop_up a last hb x0 (some (.ref 0)) [.lst acc] 20 0 300 (by omega) (by omega)
      have hp := p_power (lev a last) (by omega)
      have hpos : 0 < 2 ^ lev a last := Nat.pow_pos (by omega)
      have hple : 2 ^ lev a last ≤ 2 ^ 20 := Nat.pow_le_pow_right (by omega) hl
      obtain ⟨a', x4', e⟩ := ih (a + 2 ^ lev a last) n (acc ++ [lpD (lev a last, a / 2 ^ lev a last)]) (some (.d (.int (lev a last)))) (by omega) (by omega) (by rw [List.length_append]; simp; omega)
      refine ⟨a', x4', ?_⟩
      have hci : (a : Int) ≤ last := by omega
      have hd : divD (.int (a : Int)) (.int (2 ^ lev a last)) = some (.int ((a / 2 ^ lev a last : Nat) : Int)) := by
        have e2 : ((2 : Int) ^ lev a last) = ((2 ^ lev a last : Nat) : Int) := by simp
        rw [e2, divD_int (by omega) (by omega)]
        simp
      have hap : ∀ y, appR [.lst acc] (.ref 0) (.d y) = some [.lst (acc ++ [y])] := fun y => by
        have hz : sizeLine = 16777216 := by decide
        show (if acc.length < sizeLine then some _ else none) = _
        rw [if_pos (by rw [hz]; omega)]
        rfl
      have hil : isL [.lst acc] (.ref 0) = true := rfl
      have e3 : (a : Int) + 2 ^ lev a last = ((a + 2 ^ lev a last : Nat) : Int) := by simp
      have hcov : coverL last (f + 1) a = (lev a last, a / 2 ^ lev a last) :: coverL last f (a + 2 ^ lev a last) := by
        show (if a ≤ last then _ else _) = _
        rw [if_pos hc]
      have hlev : levG a last 20 0 = lev a last := rfl
      rw [hlev, show (((0 : Nat) : Int)) = 0 from rfl] at hup
      rw [whileLoop_succ, hcov]
      generalize lev a last = l at *
      generalize a / 2 ^ l = q at *
      have hz : sizeLine = 16777216 := by decide
      simp only [mSeq_ev, mAsg_ev, mD_ev, mB_ev, mOp2_ev, mVar_ev]
      simp [hci, mWhile_ev]
      rw [hup]
      rw [← e3] at e
      simp [hil, hp, hd, hap, hz]
      simpa using e
    · refine ⟨some (.d (.int a)), x4, ?_⟩
      have hci : ¬ ((a : Int) ≤ last) := by omega
      rw [whileLoop_succ]
      simp [hci, coverL, hc]
theorem w_cover_in (lo hi : Nat) (hb : hi < 299) (hl : lo ≤ hi) : m_cover_in [.d (.int lo), .d (.int hi)] [] = .ok (.ref 0) [.lst ((coverL hi (hi + 1 - lo) lo).map lpD)] := by
  obtain ⟨a', x4', e⟩ := loop_cover hi (by omega) (some (.d (.int lo))) (hi + 1 - lo) lo 300 [] none (by omega) (by omega) (by simp; omega)
  have hz : sizeLine = 16777216 := by decide
  unfold m_cover_in
  rw [fnR_ev]
  rw [List.nil_append] at e
  generalize (coverL hi (hi + 1 - lo) lo).map lpD = L at *
  simp [startR, hz, mWhile_ev]
  rw [e]
  simp
theorem p_cover (lo hi : Nat) (hb : hi < 299) (hl : lo ≤ hi) (S : Store) : runP m_cover [.int lo, .int hi] S = .ok (.d (.tuple ((coverL hi (hi + 1 - lo) lo).map lpD))) S := by
  refine runP_ok (S' := [.lst ((coverL hi (hi + 1 - lo) lo).map lpD)]) S ?_
  have e := w_cover_in lo hi hb hl
  unfold m_cover
  rw [fnR_ev]
  generalize (coverL hi (hi + 1 - lo) lo).map lpD = L at *
  have hr : rd [Cell.lst L] (.ref 0) = some (.list L) := rfl
  have h1 : (lo : Int) ≤ hi := by omega
  have h2 : (hi : Int) ≤ 1000000000000000 := by omega
  have h3 : (lo : Int) ≤ 1000000000000000 := by omega
  simp [startR, p_whole, h1, h2, h3, e, hr]
end G95

set_option Elab.async false
set_option linter.all false
set_option maxRecDepth 1000000
namespace G95
open PySem Pi
def waysL (a : Nat) (t : List Nat) : Nat → List Nat
  | 0 => []
  | k + 1 => waysL a t k ++ (match t[2 ^ k - 1]? with
    | some v => if a % 2 ^ k = 0 then [v] else []
    | none => [])
def minN : List Nat → Nat
  | [] => 0
  | [x] => x
  | x :: r => min x (minN r)
def tab (hi : Nat) : Nat → List Nat
  | 0 => [0]
  | n + 1 => (1 + minN (waysL (hi - n) (tab hi n) 7)) :: tab hi n
def chkRow (hi : Nat) : Bool := ((List.range (min 60 (hi + 1) + 1)).map fun n => (coverL hi n (hi + 1 - n)).length).reverse == tab hi (min 60 (hi + 1))
theorem c0 : ((List.range 20).all fun j => chkRow (0 + j)) = true := by decide +kernel
theorem c1 : ((List.range 20).all fun j => chkRow (20 + j)) = true := by decide +kernel
theorem c2 : ((List.range 20).all fun j => chkRow (40 + j)) = true := by decide +kernel
theorem c3 : ((List.range 20).all fun j => chkRow (60 + j)) = true := by decide +kernel
theorem c4 : ((List.range 20).all fun j => chkRow (80 + j)) = true := by decide +kernel
theorem c5 : ((List.range 20).all fun j => chkRow (100 + j)) = true := by decide +kernel
theorem c6 : ((List.range 20).all fun j => chkRow (120 + j)) = true := by decide +kernel
theorem c7 : ((List.range 20).all fun j => chkRow (140 + j)) = true := by decide +kernel
end G95

set_option Elab.async false
set_option linter.all false
set_option maxRecDepth 1000000
namespace G95
open PySem Pi
def rowsN : Nat → List (List Int)
  | 0 => [[]]
  | n + 1 => (rowsN n).flatMap fun r => [r ++ [0], r ++ [1], r ++ [2], r ++ [3], r ++ [4]]
def good1 (f l lo hi s : Int) (row : List Int) : Bool := decide (minI (f :: row ++ [l]) = lo) && (decide (maxI (f :: row ++ [l]) = hi) && decide ((f :: row ++ [l]).sum = s))
def goodN (m : Nat) (f l lo hi s : Int) : Bool := (rowsN m).any (good1 f l lo hi s)
def chk (m : Nat) : Bool := (List.range 4).all fun f => (List.range 4).all fun l => (List.range 3).all fun lo => (List.range 4).all fun hi => (List.range 16).all fun s =>
  fitsC ((m : Int) + 2) (10, (f : Int)) (20, (l : Int)) (lo : Int) ((hi : Int) + 1) (s : Int) == goodN m f l lo (hi + 1) s
theorem chk0 : chk 0 = true := by decide +kernel
theorem chk1 : chk 1 = true := by decide +kernel
theorem chk2 : chk 2 = true := by decide +kernel
end G95

set_option Elab.async false
set_option linter.all false
set_option maxRecDepth 100000
/-! L95b: law's own loops. The environment: 35 names, by what is looked up. -/
namespace G95
open PySem Pi
/-- the environment of law -/
structure En (ρ : Pi.Env) : Prop where
  len : ρ.length = 35
  cup : ρ[1]? = some (some (.ref 0))
theorem get_set {ρ : Pi.Env} {i j : Nat} {v : Option R} (h : i ≠ j) : (ρ.set i v)[j]? = ρ[j]? := List.getElem?_set_ne h
theorem get_self {ρ : Pi.Env} {i : Nat} {v : Option R} (h : i < ρ.length) : (ρ.set i v)[i]? = some v := List.getElem?_set_self h
theorem En.set {ρ : Pi.Env} (h : En ρ) {i : Nat} {v : Option R} (hi : i ≠ 1) : En (ρ.set i v) := ⟨by simp [h.len], by rw [get_set hi]; exact h.cup⟩
/-- a roll out of law -/
theorem e_roll {ρ : Pi.Env} (h : En ρ) (m : Int) (h0 : 0 < m) (h1 : m < 2 ^ 32) (a b : Int) (T : Store) : ∃ r a' b', 0 ≤ r ∧ r < m ∧ mCall1 m__law_roll (mCons (mVar 1) (mCons (mD (.int m)) mNil)) ρ (cup a b :: T) = .ok (.d (.int r)) (cup a' b' :: T) := by
  obtain ⟨r, a', b', h2, h3, h4⟩ := r_roll a b m T h0 h1
  exact ⟨r, a', b', h2, h3, by simp [h.cup, h4]⟩
theorem cut_ab (xs : List D) (a b : Nat) (h : a ≤ b) : cutD xs (some (a : Int)) (some (b : Int)) = (xs.drop a).take (b - a) := by
  have e1 : ∀ (n d : Nat) (k : Nat), HT.sIx n d (some (k : Int)) = min k n := fun n d k => by
    unfold HT.sIx
    simp
    intro hk; omega
  show (xs.drop (HT.sIx xs.length 0 (some (a : Int)))).take (HT.sIx xs.length xs.length (some (b : Int)) - HT.sIx xs.length 0 (some (a : Int))) = _
  rw [e1, e1]
  by_cases ha : a ≤ xs.length
  · have m1 : min a xs.length = a := by omega
    by_cases hb : b ≤ xs.length
    · have m2 : min b xs.length = b := by omega
      rw [m1, m2]
    · have m2 : min b xs.length = xs.length := by omega
      rw [m1, m2, List.take_of_length_le (by simp), List.take_of_length_le (by simp; omega)]
  · have m1 : min a xs.length = xs.length := by omega
    have m2 : min b xs.length = xs.length := by omega
    rw [m1, m2, List.drop_of_length_le (Nat.le_refl _), List.drop_of_length_le (by omega)]
    simp
theorem cut_pts (pts : List Pt) (a b : Nat) (h : a ≤ b) : sliceD (.tuple (pts.map ptD)) (some (a : Int)) (some (b : Int)) = some (.tuple (((pts.drop a).take (b - a)).map ptD)) := by
  show some (PyData.tuple (cutD _ _ _)) = _
  rw [cut_ab _ a b h, List.map_take, List.map_drop]
theorem nones (r : Int) (h : 0 ≤ r ∧ r < 2) : mulD (.tuple [.none]) (.int r) = some (.tuple ((List.replicate r.toNat (none : OC)).map oC)) := by
  have : r = 0 ∨ r = 1 := by omega
  rcases this with rfl | rfl <;> rfl
structure ChS (pts : List Pt) (cs : List OC) (k : Nat) : Prop where
  flat : (cs.filterMap id).flatten = pts.take k
  len : cs.length ≤ 2 * k
  le : k ≤ pts.length + 4
  ch : ∀ c, some c ∈ cs → Ch c
theorem ChS.step {pts : List Pt} {cs : List OC} {k m r : Nat} (P : Pts pts) (h : ChS pts cs k) (hk : k < pts.length) (hm : 1 ≤ m ∧ m ≤ 5) (hr : r ≤ 1) : ChS pts (cs ++ [some ((pts.drop k).take m)] ++ List.replicate r none) (k + m) where
  flat := by
    have e : (List.replicate r (none : OC)).filterMap id = [] := by
      induction r with
      | zero => rfl
      | succ r ih => rw [List.replicate_succ, List.filterMap_cons]; exact ih (by omega)
    rw [List.filterMap_append, List.filterMap_append, e, List.append_nil, List.flatten_append, h.flat, List.take_add]
    simp
  len := by have := h.len; simp; omega
  le := by omega
  ch := fun c hc => by
    rcases List.mem_append.mp hc with hc | hc
    · rcases List.mem_append.mp hc with hc | hc
      · exact h.ch c hc
      · have e : c = (pts.drop k).take m := by simpa using hc
        subst e
        have sub : List.Sublist ((pts.drop k).take m) pts := (List.take_sublist _ _).trans (List.drop_sublist _ _)
        refine ⟨?_, by have := P.len; have := sub.length_le; omega, P.up.sublist sub, fun p hp => P.bd p (sub.subset hp)⟩
        intro e
        have := congrArg List.length e
        simp at this
        omega
    · simp at hc
theorem loop_chunks (pts : List Pt) (P : Pts pts) (T : Store) : ∀ (j : Nat) (ρ : Pi.Env) (cs : List OC) (k n : Nat) (a b : Int), En ρ → ρ[11]? = some (some (.d (.int k))) → ρ[12]? = some (some (.d (.tuple (pts.map ptD)))) → ρ[13]? = some (some (.d (.tuple (cs.map oC)))) → ChS pts cs k → pts.length ≤ k + j → j + 1 ≤ n →
    ∃ ρ' cs' k' a' b', En ρ' ∧ ρ'[12]? = some (some (.d (.tuple (pts.map ptD)))) ∧ ρ'[13]? = some (some (.d (.tuple (cs'.map oC)))) ∧ ChS pts cs' k' ∧ pts.length ≤ k' ∧
      whileLoop (mB (mOp2 ltD (mVar 11) (mCB lenD (mCons (mVar 12) mNil))))
        (mSeq (mAsg (gN 14) (mOp2 addD (mD (.int 1)) (mCall1 m__law_roll (mCons (mVar 1) (mCons (mD (.int 5)) mNil)))))
        (mPar [13, 11] (mCons (mOp2 addD (mOp2 addD (mVar 13) (mTup (mCons (mCallP m__law_cell (mCons (mFrz (mCBL listD (mCons (mSlice (mVar 12) (mPart (mVar 11)) (mPart (mOp2 addD (mVar 11) (mVar 14)))) mNil))) mNil)) mNil))) (mOp2 mulD (mTup (mCons (mD .none) mNil)) (mCall1 m__law_roll (mCons (mVar 1) (mCons (mD (.int 2)) mNil))))) (mCons (mOp2 addD (mVar 11) (mVar 14)) mNil)))) n ρ (cup a b :: T) = .nx ρ' (cup a' b' :: T) := by
  intro j
  induction j with
  | zero =>
    intro ρ cs k n a b hE h11 h12 h13 hC hj hn
    obtain ⟨n, rfl⟩ : ∃ m, n = m + 1 := ⟨n - 1, by omega⟩
    refine ⟨ρ, cs, k, a, b, hE, h12, h13, hC, by omega, ?_⟩
    have : ¬ ((k : Int) < (pts.length : Int)) := by omega
    rw [whileLoop_succ]
    simp [h11, h12, this]
  | succ j ih =>
    intro ρ cs k n a b hE h11 h12 h13 hC hj hn
    obtain ⟨n, rfl⟩ : ∃ m, n = m + 1 := ⟨n - 1, by omega⟩
    by_cases hk : k < pts.length
    · have hz : sizeLine = 16777216 := by decide
      obtain ⟨m, a1, b1, m0, m1, e1⟩ := r_roll a b 5 T (by omega) (by omega)
      obtain ⟨M, hM⟩ : ∃ M : Nat, 1 + m = (M : Int) := ⟨(1 + m).toNat, by omega⟩
      have hE1 : En (ρ.set 14 (some (.d (.int M)))) := hE.set (by decide)
      obtain ⟨r, a2, b2, r0, r1, e2⟩ := r_roll a1 b1 2 T (by omega) (by omega)
      have g11 : (ρ.set 14 (some (R.d (.int (M : Int)))))[11]? = some (some (.d (.int k))) := by rw [get_set (by decide)]; exact h11
      have g12 : (ρ.set 14 (some (R.d (.int (M : Int)))))[12]? = some (some (.d (.tuple (pts.map ptD)))) := by rw [get_set (by decide)]; exact h12
      have g13 : (ρ.set 14 (some (R.d (.int (M : Int)))))[13]? = some (some (.d (.tuple (cs.map oC)))) := by rw [get_set (by decide)]; exact h13
      have g14 : (ρ.set 14 (some (R.d (.int (M : Int)))))[14]? = some (some (.d (.int M))) := get_self (by rw [hE.len]; decide)
      generalize hρ : ρ.set 14 (some (R.d (.int (M : Int)))) = ρ1 at *
      have hC2 := hC.step P hk (m := M) (r := r.toNat) (by omega) (by omega)
      have hl1 : ((pts.drop k).take M).length ≤ 1000 := by have := P.len; simp; omega
      have hne : (pts.drop k).take M ≠ [] := by
        intro e
        have := congrArg List.length e
        simp at this
        omega
      have hcell := p_law_cell ((pts.drop k).take M) hl1
      have ho : optC (optP ((pts.drop k).take M)) = oC (some ((pts.drop k).take M)) := by
        cases hq : (pts.drop k).take M with
        | nil => exact absurd hq hne
        | cons x y => rfl
      have hs := cut_pts pts k (k + M) (by omega)
      rw [show k + M - k = M by omega] at hs
      have en : ((k + M : Nat) : Int) = (k : Int) + (M : Int) := by omega
      rw [en] at hs
      have hn1 := nones r ⟨r0, r1⟩
      have ad1 : addD (.tuple (cs.map oC)) (.tuple [oC (some ((pts.drop k).take M))]) = some (.tuple ((cs ++ [some ((pts.drop k).take M)]).map oC)) := by
        rw [addD_tup (by have := hC.len; have := hC.le; have := P.len; rw [hz]; simp; omega)]
        simp
      have ad2 : addD (.tuple ((cs ++ [some ((pts.drop k).take M)]).map oC)) (.tuple ((List.replicate r.toNat (none : OC)).map oC)) = some (.tuple ((cs ++ [some ((pts.drop k).take M)] ++ List.replicate r.toNat none).map oC)) := by
        rw [addD_tup (by have := hC.len; have := hC.le; have := P.len; rw [hz]; simp; omega), ← List.map_append]
      generalize cs ++ [some ((pts.drop k).take M)] ++ List.replicate r.toNat none = cs2 at *
      have hE2 : En ((ρ1.set 13 (some (.d (.tuple (cs2.map oC))))).set 11 (some (.d (.int ((k : Int) + M))))) := (hE1.set (by decide)).set (by decide)
      have q11 : ((ρ1.set 13 (some (R.d (.tuple (cs2.map oC))))).set 11 (some (.d (.int ((k : Int) + M)))))[11]? = some (some (.d (.int ((k + M : Nat) : Int)))) := by
        rw [get_self (by simp [hE1.len]), en]
      have q12 : ((ρ1.set 13 (some (R.d (.tuple (cs2.map oC))))).set 11 (some (.d (.int ((k : Int) + M)))))[12]? = some (some (.d (.tuple (pts.map ptD)))) := by
        rw [get_set (by decide), get_set (by decide)]; exact g12
      have q13 : ((ρ1.set 13 (some (R.d (.tuple (cs2.map oC))))).set 11 (some (.d (.int ((k : Int) + M)))))[13]? = some (some (.d (.tuple (cs2.map oC)))) := by
        rw [get_set (by decide), get_self (by rw [hE1.len]; decide)]
      obtain ⟨ρ', cs', k', a', b', w1, w2, w3, w4, w5, w6⟩ := ih _ cs2 (k + M) n a2 b2 hE2 q11 q12 q13 hC2 (by omega) (by omega)
      refine ⟨ρ', cs', k', a', b', w1, w2, w3, w4, w5, ?_⟩
      have hki : (k : Int) < (pts.length : Int) := by omega
      rw [whileLoop_succ]
      generalize (pts.drop k).take M = ch at *
      simp only [mCB_ev, mB_ev, mOp2_ev, mVar_ev, mCons_ev, mNil_ev, h11, h12]
      have c1 := hE.cup
      have c2 := hE1.cup
      have l35 := hE1.len
      simp [hki, c1, e1, hM, hρ, c2, e2, g11, g12, g13, g14, hs, hcell, ho, hz, ad1, hn1, ad2]
      simp at ad2
      simp [ad2]
      exact w6
    · refine ⟨ρ, cs, k, a, b, hE, h12, h13, hC, by omega, ?_⟩
      have : ¬ ((k : Int) < (pts.length : Int)) := by omega
      rw [whileLoop_succ]
      simp [h11, h12, this]
/-! due -/
theorem due_keep (ρ : Pi.Env) (hl : ρ.length = 35) (i w x y z : Int) (h5 : ρ[5]? = some (some (.d (.int i)))) (h21 : ρ[21]? = some (some (.d (.list [.int w, .int x, .int y, .int z])))) (S : Store) :
    lcLoop (ρ.set 33 none) (gN 33) (mOrT (mB (mOp2 eqD (mVar 33) (mD (.int 0)))) (mB (mOp2 neD (mOp2 ixD (mVar 21) (mVar 33)) (mOp2 ixD (mVar 21) (mOp2 subD (mVar 33) (mD (.int 1))))))) (mTup (mCons (mVar 5) (mCons (mOp2 ixD (mVar 21) (mVar 33)) mNil)))
      [.int 0, .int 1, .int 2, .int 3] S = .ok (ptD (i, w) :: (opt1 (x = w) (ptD (i, x)) ++ (opt1 (y = x) (ptD (i, y)) ++ opt1 (z = y) (ptD (i, z))))) S := by
  have hz : sizeLine = 16777216 := by decide
  have a1 : ∀ v : Option R, ((ρ.set 33 none).set 33 v)[5]? = some (some (.d (.int i))) := fun v => by rw [get_set (by decide), get_set (by decide)]; exact h5
  have a2 : ∀ v : Option R, ((ρ.set 33 none).set 33 v)[21]? = some (some (.d (.list [.int w, .int x, .int y, .int z]))) := fun v => by rw [get_set (by decide), get_set (by decide)]; exact h21
  have a3 : ∀ v : Option R, ((ρ.set 33 none).set 33 v)[33]? = some v := fun v => get_self (by simp [hl])
  simp only [List.set_set] at a1 a2 a3
  by_cases h1 : x = w <;> by_cases h2 : y = x <;> by_cases h3 : z = y <;> simp [lcLoop_cons, a1, a2, a3, hz, opt1, h1, h2, h3] <;> split <;> simp
theorem loop_due (cs : List OC) (hcs : cs.length ≤ 256) (S : Store) : ∀ (j i : Nat) (ρ : Pi.Env) (acc : List D), i + j = cs.length → En ρ → ρ[4]? = some (some (.d (.list acc))) → ρ[13]? = some (some (.d (.tuple (cs.map oC)))) → acc.length ≤ 4 * i →
    ∃ ρ', En ρ' ∧ ρ'[4]? = some (some (.d (.list (acc ++ cornL i (cs.drop i))))) ∧ ρ'[13]? = some (some (.d (.tuple (cs.map oC)))) ∧ forLoop (gN 5)
  (mIf (mB (mOp2 notND (mOp2 ixD (mVar 13) (mVar 5)) (mD .none)))
  (mSeq (mAsg (gN 21) (mFrz (mDisp (mCons (mOp2 ixD (mOp2 ixD (mOp2 ixD (mVar 13) (mVar 5)) (mD (.int 1))) (mD (.int 1))) (mCons (mOp2 ixD (mOp2 ixD (mVar 13) (mVar 5)) (mD (.int 3))) (mCons (mOp2 ixD (mOp2 ixD (mVar 13) (mVar 5)) (mD (.int 4))) (mCons (mOp2 ixD (mOp2 ixD (mOp2 ixD (mVar 13) (mVar 5)) (mD (.int 2))) (mD (.int 1))) mNil)))))))
  (mAsg (gN 4) (mFrz (mOp2L (onlyL addD) (mVar 4) (mFrz (mLc (mItA range1 (mCons (mD (.int 4)) mNil)) [33] (gN 33) (mOrT (mB (mOp2 eqD (mVar 33) (mD (.int 0)))) (mB (mOp2 neD (mOp2 ixD (mVar 21) (mVar 33)) (mOp2 ixD (mVar 21) (mOp2 subD (mVar 33) (mD (.int 1))))))) (mTup (mCons (mVar 5) (mCons (mOp2 ixD (mVar 21) (mVar 33)) mNil)))))))))
  mSkip) ((List.range' i j).map fun k : Nat => .int (k : Int)) ρ S = .nx ρ' S := by
  intro j
  induction j with
  | zero =>
    intro i ρ acc hij hE h4 h13 ha
    refine ⟨ρ, hE, ?_, h13, rfl⟩
    rw [h4, List.drop_of_length_le (by omega)]
    simp [cornL]
  | succ j ih =>
    intro i ρ acc hij hE h4 h13 ha
    have hi : i < cs.length := by omega
    have hix : ixD (.tuple (cs.map oC)) (.int (i : Int)) = some (oC cs[i]) := by
      rw [ixT _ _ (by simp; exact hi), List.getElem?_map, List.getElem?_eq_getElem hi]; rfl
    have hE1 : En (ρ.set 5 (some (.d (.int i)))) := hE.set (by decide)
    have g4 : (ρ.set 5 (some (R.d (.int (i : Int)))))[4]? = some (some (.d (.list acc))) := by rw [get_set (by decide)]; exact h4
    have g5 : (ρ.set 5 (some (R.d (.int (i : Int)))))[5]? = some (some (.d (.int i))) := get_self (by rw [hE.len]; decide)
    have g13 : (ρ.set 5 (some (R.d (.int (i : Int)))))[13]? = some (some (.d (.tuple (cs.map oC)))) := by rw [get_set (by decide)]; exact h13
    have hd : cs.drop i = cs[i] :: cs.drop (i + 1) := List.drop_eq_getElem_cons hi
    rw [List.range'_succ, List.map_cons, forLoop_cons]
    simp only [gN_ev, optO_some]
    generalize ρ.set 5 (some (R.d (.int (i : Int)))) = ρ1 at *
    cases hc : cs[i] with
    | none =>
      rw [hc] at hix hd
      obtain ⟨ρ', w1, w2, w3, w4⟩ := ih (i + 1) ρ1 acc (by omega) hE1 g4 g13 (by omega)
      refine ⟨ρ', w1, by rw [hd]; exact w2, w3, ?_⟩
      simp [g5, g13, hix, w4]
    | some c =>
      have hz : sizeLine = 16777216 := by decide
      rw [hc] at hix hd
      rw [oC_some] at hix
      have h4c := cornC_len i (cellOf c)
      have hE2 : En (ρ1.set 21 (some (.d (.list [.int (cellOf c).a.2, .int (cellOf c).lo, .int (cellOf c).hi, .int (cellOf c).b.2])))) := hE1.set (by decide)
      have k4 : (ρ1.set 21 (some (R.d (.list [.int (cellOf c).a.2, .int (cellOf c).lo, .int (cellOf c).hi, .int (cellOf c).b.2]))))[4]? = some (some (.d (.list acc))) := by rw [get_set (by decide)]; exact g4
      have k5 : (ρ1.set 21 (some (R.d (.list [.int (cellOf c).a.2, .int (cellOf c).lo, .int (cellOf c).hi, .int (cellOf c).b.2]))))[5]? = some (some (.d (.int i))) := by rw [get_set (by decide)]; exact g5
      have k13 : (ρ1.set 21 (some (R.d (.list [.int (cellOf c).a.2, .int (cellOf c).lo, .int (cellOf c).hi, .int (cellOf c).b.2]))))[13]? = some (some (.d (.tuple (cs.map oC)))) := by rw [get_set (by decide)]; exact g13
      have k21 : (ρ1.set 21 (some (R.d (.list [.int (cellOf c).a.2, .int (cellOf c).lo, .int (cellOf c).hi, .int (cellOf c).b.2]))))[21]? = some (some (.d (.list [.int (cellOf c).a.2, .int (cellOf c).lo, .int (cellOf c).hi, .int (cellOf c).b.2]))) := get_self (by rw [hE1.len]; decide)
      generalize hρ2 : ρ1.set 21 (some (R.d (.list [.int (cellOf c).a.2, .int (cellOf c).lo, .int (cellOf c).hi, .int (cellOf c).b.2]))) = ρ2 at *
      have hk := due_keep ρ2 hE2.len i _ _ _ _ k5 k21 S
      have hE3 : En (ρ2.set 4 (some (.d (.list (acc ++ cornC i (cellOf c)))))) := hE2.set (by decide)
      have m4 : (ρ2.set 4 (some (R.d (.list (acc ++ cornC i (cellOf c))))))[4]? = some (some (.d (.list (acc ++ cornC i (cellOf c))))) := get_self (by rw [hE2.len]; decide)
      have m13 : (ρ2.set 4 (some (R.d (.list (acc ++ cornC i (cellOf c))))))[13]? = some (some (.d (.tuple (cs.map oC)))) := by rw [get_set (by decide)]; exact k13
      obtain ⟨ρ', w1, w2, w3, w4⟩ := ih (i + 1) _ (acc ++ cornC i (cellOf c)) (by omega) hE3 m4 m13 (by rw [List.length_append]; omega)
      refine ⟨ρ', w1, by rw [hd]; rw [w2, List.append_assoc]; rfl, w3, ?_⟩
      have hr4 : range1 [.int 4] = some [.int 0, .int 1, .int 2, .int 3] := rfl
      have hadd : onlyL addD (.list acc) (.list (cornC i (cellOf c))) = some (acc ++ cornC i (cellOf c)) := by
        unfold onlyL
        rw [addD_lst (by rw [hz]; omega)]
      have hcl : (cornC i (cellOf c)).length ≤ 16777216 := by omega
      rw [show ptD ((i : Int), (cellOf c).a.2) :: (opt1 ((cellOf c).lo = (cellOf c).a.2) (ptD ((i : Int), (cellOf c).lo)) ++ (opt1 ((cellOf c).hi = (cellOf c).lo) (ptD ((i : Int), (cellOf c).hi)) ++ opt1 ((cellOf c).b.2 = (cellOf c).hi) (ptD ((i : Int), (cellOf c).b.2)))) = cornC i (cellOf c) from rfl] at hk
      generalize cornC (i : Int) (cellOf c) = L at *
      simp [g5, g13, hix, hz, hρ2, k4, hr4, hk, hcl, hadd, w4]
/-! the small cells' rows -/
def rowD (r : List Int) : D := .tuple (r.map .int)
def ext5 (r : List Int) : List (List Int) := [r ++ [0], r ++ [1], r ++ [2], r ++ [3], r ++ [4]]
theorem rowD_add (r : List Int) (v : Int) (h : r.length ≤ 100) : addD (rowD r) (.tuple [.int v]) = some (rowD (r ++ [v])) := by
  have hz : sizeLine = 16777216 := by decide
  unfold rowD
  rw [addD_tup (by rw [hz]; simp; omega)]
  simp
theorem row_keep (ρ : Pi.Env) (hl : ρ.length = 35) (r : List Int) (hr : r.length ≤ 100) (h7 : ρ[7]? = some (some (.d (rowD r)))) (S : Store) :
    lcLoop (ρ.set 34 none) (gN 34) mYes (mOp2 addD (mVar 7) (mTup (mCons (mVar 34) mNil))) [.int 0, .int 1, .int 2, .int 3, .int 4] S = .ok ((ext5 r).map rowD) S := by
  have hz : sizeLine = 16777216 := by decide
  have a1 : ∀ v : Option R, ((ρ.set 34 none).set 34 v)[7]? = some (some (.d (rowD r))) := fun v => by rw [get_set (by decide), get_set (by decide)]; exact h7
  have a3 : ∀ v : Option R, ((ρ.set 34 none).set 34 v)[34]? = some v := fun v => get_self (by simp [hl])
  simp only [List.set_set] at a1 a3
  have hadd := fun v => rowD_add r v hr
  simp [lcLoop_cons, a1, a3, hz, hadd, ext5]
theorem loop_ext (S : Store) : ∀ (rs : List (List Int)) (ρ : Pi.Env) (acc : List D), (∀ r ∈ rs, r.length ≤ 100) → acc.length + 5 * rs.length ≤ 100000 → En ρ → ρ[22]? = some (some (.d (.list acc))) →
    ∃ ρ', En ρ' ∧ ρ'[22]? = some (some (.d (.list (acc ++ (rs.flatMap ext5).map rowD)))) ∧ (∀ i, i ≠ 7 → i ≠ 22 → ρ'[i]? = ρ[i]?) ∧ forLoop (gN 7)
      (mAsg (gN 22) (mFrz (mOp2L (onlyL addD) (mVar 22) (mFrz (mLc (mItA range1 (mCons (mD (.int 5)) mNil)) [34] (gN 34) mYes (mOp2 addD (mVar 7) (mTup (mCons (mVar 34) mNil)))))))) (rs.map rowD) ρ S = .nx ρ' S
  | [], ρ, acc, _, _, hE, h => ⟨ρ, hE, by simpa using h, fun _ _ _ => rfl, rfl⟩
  | r :: rs, ρ, acc, hr, hn, hE, h => by
    have hz : sizeLine = 16777216 := by decide
    have hE1 : En (ρ.set 7 (some (.d (rowD r)))) := hE.set (by decide)
    have g22 : (ρ.set 7 (some (R.d (rowD r))))[22]? = some (some (.d (.list acc))) := by rw [get_set (by decide)]; exact h
    have g7 : (ρ.set 7 (some (R.d (rowD r))))[7]? = some (some (.d (rowD r))) := get_self (by rw [hE.len]; decide)
    have go : ∀ i, i ≠ 7 → (ρ.set 7 (some (R.d (rowD r))))[i]? = ρ[i]? := fun i hi => get_set (Ne.symm hi)
    rw [List.map_cons, forLoop_cons]
    simp only [gN_ev, optO_some]
    generalize ρ.set 7 (some (R.d (rowD r))) = ρ1 at *
    have hk := row_keep ρ1 hE1.len r (hr r List.mem_cons_self) g7 S
    have hE2 : En (ρ1.set 22 (some (.d (.list (acc ++ (ext5 r).map rowD))))) := hE1.set (by decide)
    have m22 : (ρ1.set 22 (some (R.d (.list (acc ++ (ext5 r).map rowD)))))[22]? = some (some (.d (.list (acc ++ (ext5 r).map rowD)))) := get_self (by rw [hE1.len]; decide)
    obtain ⟨ρ', w1, w2, w3, w4⟩ := loop_ext S rs _ (acc ++ (ext5 r).map rowD) (fun q hq => hr q (List.mem_cons_of_mem _ hq)) (by simp [ext5] at hn ⊢; omega) hE2 m22
    refine ⟨ρ', w1, by rw [w2, List.flatMap_cons, List.map_append, List.append_assoc], fun i h1 h2 => by rw [w3 i h1 h2, get_set (Ne.symm h2), go i h1], ?_⟩
    have hr5 : range1 [.int 5] = some [.int 0, .int 1, .int 2, .int 3, .int 4] := rfl
    have hadd : onlyL addD (.list acc) (.list ((ext5 r).map rowD)) = some (acc ++ (ext5 r).map rowD) := by
      unfold onlyL
      rw [addD_lst (by rw [hz]; simp [ext5] at hn ⊢; omega)]
    have hcl : ((ext5 r).map rowD).length ≤ 16777216 := by simp [ext5]
    generalize (ext5 r).map rowD = L at *
    simp [g22, hr5, hk, hz, hcl, hadd, w4]
end G95

set_option Elab.async false
set_option linter.all false
set_option maxRecDepth 100000
/-! L95c: law's other loops. -/
namespace G95
open PySem Pi
theorem hz : sizeLine = 16777216 := by decide
theorem En.of {is : List Nat} {ρ ρ' : Pi.Env} (h : En ρ) (f : Fr is ρ ρ') (h1 : 1 ∉ is := by decide) : En ρ' := ⟨by rw [f.len, h.len], by rw [f.get 1 h1]; exact h.cup⟩
/-! the small cells -/
theorem rows_mem : ∀ (n : Nat) (r : List Int), r ∈ rowsN n → r.length = n
  | 0, r, h => by have : r = [] := by simpa [rowsN] using h
                  subst this; rfl
  | n + 1, r, h => by
    obtain ⟨q, h1, h2⟩ := List.mem_flatMap.mp h
    have := rows_mem n q h1
    simp at h2
    rcases h2 with h2 | h2 | h2 | h2 | h2 <;> subst h2 <;> simp [this]
theorem rows_len : ∀ n, (rowsN n).length = 5 ^ n
  | 0 => rfl
  | n + 1 => by
    have := rows_len n
    show ((rowsN n).flatMap _).length = _
    rw [List.length_flatMap]
    have e : ((rowsN n).map fun r => [r ++ [0], r ++ [1], r ++ [2], r ++ [3], r ++ [4]].length) = List.replicate (5 ^ n) 5 := by
      rw [← this]
      exact List.map_const' (l := rowsN n) (b := 5)
    rw [e]
    simp [Nat.pow_succ]
theorem loop_rows (S : Store) : ∀ (ds : List D) (n : Nat) (ρ : Pi.Env), n + ds.length ≤ 2 → En ρ → ρ[21]? = some (some (.d (.list ((rowsN n).map rowD)))) →
    ∃ ρ', Fr [6, 7, 21, 22] ρ ρ' ∧ ρ'[21]? = some (some (.d (.list ((rowsN (n + ds.length)).map rowD)))) ∧ forLoop (gN 6) b_law_10 ds ρ S = .nx ρ' S
  | [], n, ρ, _, hE, h => ⟨ρ, Fr.refl _ _, h, rfl⟩
  | d :: ds, n, ρ, hn, hE, h => by
    have f1 : Fr [6, 7, 21, 22] ρ ((ρ.set 6 (some (.d d))).set 22 (some (.d (.list [])))) := ((Fr.refl _ ρ).set 6 _).set 22 _
    have hE1 := hE.of f1
    have hl := hE.len
    have g22 : ((ρ.set 6 (some (R.d d))).set 22 (some (R.d (.list []))))[22]? = some (some (.d (.list []))) := by simp [hl]
    have g21 : ((ρ.set 6 (some (R.d d))).set 22 (some (R.d (.list []))))[21]? = some (some (.d (.list ((rowsN n).map rowD)))) := by simp [List.getElem?_set, h]
    have n1 : n ≤ 1 := by simp at hn; omega
    have p5 : 5 ^ n ≤ 5 := by have : n = 0 ∨ n = 1 := by omega
                              rcases this with rfl | rfl <;> decide
    obtain ⟨ρ2, w1, w2, w3, w4⟩ := loop_ext S (rowsN n) _ [] (fun r hr => by rw [rows_mem n r hr]; omega) (by rw [rows_len]; simp; omega) hE1 g22
    have f2 : Fr [6, 7, 21, 22] ρ ρ2 := f1.trans ⟨by rw [w1.len, hE1.len], fun i hi => w3 i (by simp at hi; omega) (by simp at hi; omega)⟩
    have f3 : Fr [6, 7, 21, 22] ρ (ρ2.set 21 (some (.d (.list ((rowsN (n + 1)).map rowD))))) := f2.set 21 _
    have g3 : (ρ2.set 21 (some (R.d (.list ((rowsN (n + 1)).map rowD)))))[21]? = some (some (.d (.list ((rowsN (n + 1)).map rowD)))) := List.getElem?_set_self (by rw [w1.len]; decide)
    obtain ⟨ρ', v1, v2, v3⟩ := loop_rows S ds (n + 1) _ (by simp at hn; omega) (hE.of f3) g3
    refine ⟨ρ', f3.trans v1, ?_, ?_⟩
    · rw [v2, List.length_cons, Nat.add_assoc, Nat.add_comm 1]
    · have e : ([] ++ ((rowsN n).flatMap ext5).map rowD) = (rowsN (n + 1)).map rowD := rfl
      rw [e] at w2
      refine forN_of (ρ1 := ρ2.set 21 (some (.d (.list ((rowsN (n + 1)).map rowD))))) (S1 := S) ?_ v3
      refine seq_of (ρ1 := (ρ.set 6 (some (.d d))).set 22 (some (.d (.list [])))) (S1 := S) (by simp [hz]) ?_
      refine seq_of (ρ1 := ρ2) (S1 := S) (mFor_of (ds := (rowsN n).map rowD) (S1 := S) ?_ w4) ?_
      · simp only [mItS_ev, mVar_ev, g21, getV_some, Res.bind_ok, rdR_d, optB_some, itD_lst]
      · simp only [mAsg_ev, mVar_ev, w2, getV_some, Res.out_ok, gN_ev, optG_some]
theorem loop_good (S : Store) (f l lo hi s : Int) : ∀ (rs : List (List Int)) (ρ : Pi.Env) (g : Bool), (∀ r ∈ rs, r.length ≤ 100) → En ρ → ρ[15]? = some (some (.d (.int f))) → ρ[16]? = some (some (.d (.int l))) →
    ρ[17]? = some (some (.d (.int lo))) → ρ[18]? = some (some (.d (.int hi))) → ρ[19]? = some (some (.d (.int s))) → ρ[20]? = some (some (.d (.bool g))) →
    ∃ ρ', Fr [7, 20, 23] ρ ρ' ∧ ρ'[20]? = some (some (.d (.bool (g || rs.any (good1 f l lo hi s))))) ∧ forLoop (gN 7) b_law_9 (rs.map rowD) ρ S = .nx ρ' S
  | [], ρ, g, _, hE, _, _, _, _, _, h => ⟨ρ, Fr.refl _ _, by simpa using h, rfl⟩
  | r :: rs, ρ, g, hr, hE, h15, h16, h17, h18, h19, h20 => by
    have hl := hE.len
    have hrl := hr r List.mem_cons_self
    have a1 : addD (.tuple [.int f]) (rowD r) = some (rowD (f :: r)) := by
      unfold rowD; rw [addD_tup (by rw [hz]; simp; omega)]; rfl
    have a2 : addD (rowD (f :: r)) (.tuple [.int l]) = some (rowD (f :: r ++ [l])) := by
      unfold rowD; rw [addD_tup (by rw [hz]; simp; omega)]; simp
    have hmin : minD [rowD (f :: r ++ [l])] = some (.int (minI (f :: r ++ [l]))) := by
      show minOf _ = _
      unfold minOf
      rw [intsD_map]; rfl
    have hmax : maxD [rowD (f :: r ++ [l])] = some (.int (maxI (f :: r ++ [l]))) := by
      show maxOf _ = _
      unfold maxOf
      rw [intsD_map]; rfl
    have hsum : sumD [rowD (f :: r ++ [l])] = some (.int ((f :: r ++ [l]).sum)) := by
      show (intsD _).map _ = _
      rw [intsD_map]; rfl
    have fr : ∀ v w, Fr [7, 20, 23] ρ (((ρ.set 7 (some (.d (rowD r)))).set 23 v).set 20 w) := fun v w => (((Fr.refl _ ρ).set 7 _).set 23 _).set 20 _
    have hf := fr (some (.d (rowD (f :: r ++ [l])))) (some (.d (.bool (g || good1 f l lo hi s r))))
    obtain ⟨ρ', v1, v2, v3⟩ := loop_good S f l lo hi s rs _ (g || good1 f l lo hi s r) (fun q hq => hr q (List.mem_cons_of_mem _ hq)) (hE.of hf) (by rw [hf.get 15 (by decide)]; exact h15) (by rw [hf.get 16 (by decide)]; exact h16) (by rw [hf.get 17 (by decide)]; exact h17) (by rw [hf.get 18 (by decide)]; exact h18) (by rw [hf.get 19 (by decide)]; exact h19) (by simp [hl])
    refine ⟨ρ', hf.trans v1, by rw [v2, List.any_cons, Bool.or_assoc], ?_⟩
    have he : (decide (minI (f :: r ++ [l]) = lo ∧ maxI (f :: r ++ [l]) = hi ∧ (f :: r ++ [l]).sum = s)) = good1 f l lo hi s r := by
      unfold good1
      simp only [Bool.decide_and]
    have hq := eq_3 (minI (f :: r ++ [l])) (maxI (f :: r ++ [l])) ((f :: r ++ [l]).sum) lo hi s
    rw [he] at hq
    rw [List.map_cons]
    generalize good1 f l lo hi s r = gd at *
    have k7 : (ρ.set 7 (some (R.d (rowD r))))[7]? = some (some (.d (rowD r))) := set_get hl (by decide)
    have k15 : (ρ.set 7 (some (R.d (rowD r))))[15]? = _ := set_old h15
    have k16 : (ρ.set 7 (some (R.d (rowD r))))[16]? = _ := set_old h16
    have k17 : (ρ.set 7 (some (R.d (rowD r))))[17]? = _ := set_old h17
    have k18 : (ρ.set 7 (some (R.d (rowD r))))[18]? = _ := set_old h18
    have k19 : (ρ.set 7 (some (R.d (rowD r))))[19]? = _ := set_old h19
    have k20 : (ρ.set 7 (some (R.d (rowD r))))[20]? = _ := set_old h20
    have hl1 : (ρ.set 7 (some (R.d (rowD r)))).length = 35 := by simp [hl]
    refine forN_of (ρ1 := ((ρ.set 7 (some (.d (rowD r)))).set 23 (some (.d (rowD (f :: r ++ [l]))))).set 20 (some (.d (.bool (g || gd))))) (S1 := S) ?_ v3
    generalize ρ.set 7 (some (R.d (rowD r))) = ρ1 at *
    generalize f :: r ++ [l] = X at *
    refine seq_of (ρ1 := ρ1.set 23 (some (.d (rowD X)))) (S1 := S) ?_ ?_
    · clear hf v1 v2 v3
      simp [k7, k15, k16, a1, a2, hz]
    have m23 : (ρ1.set 23 (some (R.d (rowD X))))[23]? = some (some (.d (rowD X))) := set_get hl1 (by decide)
    have m17 : (ρ1.set 23 (some (R.d (rowD X))))[17]? = _ := set_old k17
    have m18 : (ρ1.set 23 (some (R.d (rowD X))))[18]? = _ := set_old k18
    have m19 : (ρ1.set 23 (some (R.d (rowD X))))[19]? = _ := set_old k19
    have m20 : (ρ1.set 23 (some (R.d (rowD X))))[20]? = _ := set_old k20
    generalize ρ1.set 23 (some (R.d (rowD X))) = ρ2 at *
    clear hf v1 v2 v3
    cases g with
    | true => simp [m20]
    | false => simp [m17, m18, m19, m20, m23, hz, hmin, hmax, hsum, hq]
end G95

set_option Elab.async false
set_option linter.all false
set_option maxRecDepth 100000
/-! L95d: the cover's walk, the table. -/
namespace G95
open PySem Pi
theorem lev_div (a last : Nat) : ∀ k l, a % 2 ^ l = 0 → a + 2 ^ l ≤ last + 1 → a % 2 ^ (levG a last k l) = 0 ∧ a + 2 ^ (levG a last k l) ≤ last + 1
  | 0, l, h, h2 => ⟨h, h2⟩
  | k + 1, l, h, h2 => by
    unfold levG
    split
    · next hu =>
      unfold upB at hu
      simp at hu
      exact lev_div a last k (l + 1) hu.1 hu.2
    · exact ⟨h, h2⟩
theorem lev_ok (a last : Nat) (h : a ≤ last) : a / 2 ^ lev a last * 2 ^ lev a last = a ∧ a + 2 ^ lev a last ≤ last + 1 ∧ lev a last ≤ 20 := by
  obtain ⟨h1, h2⟩ := lev_div a last 20 0 (by simp [Nat.mod_one]) (by simpa using h)
  refine ⟨Nat.div_mul_cancel (Nat.dvd_of_mod_eq_zero h1), h2, ?_⟩
  have := levG_le a last 20 0
  unfold lev; omega
theorem loop_wide (S : Store) : ∀ (ds : List D) (w : Int) (ρ : Pi.Env), ρ.length = 35 → ρ[28]? = some (some (.d (.int w))) →
    ∃ ρ', Fr [28, 29] ρ ρ' ∧ ρ'[28]? = some (some (.d (.int (2 ^ ds.length * w)))) ∧ forLoop (gN 29) b_law_7 ds ρ S = .nx ρ' S
  | [], w, ρ, hl, h => ⟨ρ, Fr.refl _ _, by simpa using h, rfl⟩
  | d :: ds, w, ρ, hl, h => by
    have f1 : Fr [28, 29] ρ ((ρ.set 29 (some (.d d))).set 28 (some (.d (.int (2 * w))))) := ((Fr.refl _ ρ).set 29 _).set 28 _
    obtain ⟨ρ', v1, v2, v3⟩ := loop_wide S ds (2 * w) _ (by rw [f1.len, hl]) (List.getElem?_set_self (by simp [hl]))
    have m1 : mulD (.int 2) (.int w) = some (.int (2 * w)) := mulD_int (mulOk_l (by omega))
    refine ⟨ρ', f1.trans v1, ?_, ?_⟩
    · rw [v2, List.length_cons, Int.pow_succ, Int.mul_assoc]
    · refine forN_of (ρ1 := (ρ.set 29 (some (.d d))).set 28 (some (.d (.int (2 * w))))) (S1 := S) ?_ v3
      have k : (ρ.set 29 (some (R.d d)))[28]? = _ := set_old h
      unfold b_law_7
      simp [k, m1]
theorem loop_here (S : Store) (hi : Nat) (hb : hi < 1000) : ∀ (f a : Nat) (ρ : Pi.Env), a ≤ hi + 1 → hi + 1 ≤ a + f → En ρ → ρ[25]? = some (some (.d (.int a))) →
    ∃ ρ', Fr [25, 26, 27, 28, 29] ρ ρ' ∧ ρ'[25]? = some (some (.d (.int ((hi + 1 : Nat) : Int)))) ∧ forLoop (gT [gN 26, gN 27]) b_law_5 ((coverL hi f a).map lpD) ρ S = .nx ρ' S := by
  intro f
  induction f with
  | zero =>
    intro a ρ h1 h2 hE h
    have : a = hi + 1 := by omega
    subst this
    exact ⟨ρ, Fr.refl _ _, h, rfl⟩
  | succ f ih =>
    intro a ρ h1 h2 hE h
    by_cases hc : a ≤ hi
    · obtain ⟨q1, q2, q3⟩ := lev_ok a hi hc
      have hcov : coverL hi (f + 1) a = (lev a hi, a / 2 ^ lev a hi) :: coverL hi f (a + 2 ^ lev a hi) := by
        show (if a ≤ hi then _ else _) = _
        rw [if_pos hc]
      rw [hcov, List.map_cons]
      have hpos : 0 < 2 ^ lev a hi := Nat.pow_pos (by omega)
      generalize hq : a / 2 ^ lev a hi = q at *
      generalize lev a hi = l at *
      have hl := hE.len
      have f1 : Fr [25, 26, 27, 28, 29] ρ (((ρ.set 26 (some (.d (.int l)))).set 27 (some (.d (.int q)))).set 28 (some (.d (.int 1)))) := (((Fr.refl _ ρ).set 26 _).set 27 _).set 28 _
      have hl1 := (hE.of f1).len
      have g28 : (((ρ.set 26 (some (R.d (.int l)))).set 27 (some (R.d (.int q)))).set 28 (some (R.d (.int 1))))[28]? = some (some (.d (.int 1))) := by simp [hl]
      have g26 : (((ρ.set 26 (some (R.d (.int l)))).set 27 (some (R.d (.int q)))).set 28 (some (R.d (.int 1))))[26]? = some (some (.d (.int l))) := by simp [List.getElem?_set, hl]
      have g27 : (((ρ.set 26 (some (R.d (.int l)))).set 27 (some (R.d (.int q)))).set 28 (some (R.d (.int 1))))[27]? = some (some (.d (.int q))) := by simp [List.getElem?_set, hl]
      have g25 : (((ρ.set 26 (some (R.d (.int l)))).set 27 (some (R.d (.int q)))).set 28 (some (R.d (.int 1))))[25]? = some (some (.d (.int a))) := by simp [List.getElem?_set, h]
      have hr := range1_nat (j := (l : Int)) (by omega) (by omega)
      rw [Int.toNat_natCast] at hr
      obtain ⟨ρ2, w1, w2, w3⟩ := loop_wide S ((List.range l).map fun k : Nat => PyData.int (k : Int)) 1 _ hl1 g28
      have hlen2 : ((List.range l).map fun k : Nat => PyData.int (k : Int)).length = l := by simp
      rw [hlen2, Int.mul_one] at w2
      have k26 := (w1.get 26 (by decide)).trans g26
      have k27 := (w1.get 27 (by decide)).trans g27
      have k25 := (w1.get 25 (by decide)).trans g25
      have f2 : Fr [25, 26, 27, 28, 29] ρ ρ2 := f1.trans w1.mono
      have hl2 := (hE.of f2).len
      have f3 : Fr [25, 26, 27, 28, 29] ρ (ρ2.set 25 (some (.d (.int ((a + 2 ^ l : Nat) : Int))))) := f2.set 25 _
      obtain ⟨ρ', v1, v2, v3⟩ := ih (a + 2 ^ l) _ q2 (by omega) (hE.of f3) (List.getElem?_set_self (by rw [hl2]; decide))
      have m1 : mulD (.int (q : Int)) (.int (2 ^ l)) = some (.int (a : Int)) := by
        have e2 : ((2 : Int) ^ l) = ((2 ^ l : Nat) : Int) := by simp
        have e3 : (2 ^ l : Nat) ≤ 1001 := by omega
        rw [e2, mulD_int (mulOk_r (by omega)), ← Int.natCast_mul, q1]
      refine ⟨ρ', f3.trans v1, v2, ?_⟩
      refine forG_of (ρ0 := (ρ.set 26 (some (.d (.int l)))).set 27 (some (.d (.int q)))) (S0 := S) (ρ1 := ρ2.set 25 (some (.d (.int ((a + 2 ^ l : Nat) : Int))))) (S1 := S) ?_ ?_ v3
      · show gAll _ _ ρ S = _
        simp only [gAll_cons, gAll_nil, gN_ev, Option.bind_some]
      clear v1 v2 v3 ih
      refine seq_of (ρ1 := ((ρ.set 26 (some (.d (.int l)))).set 27 (some (.d (.int q)))).set 28 (some (.d (.int 1)))) (S1 := S) (by simp) ?_
      generalize ((ρ.set 26 (some (R.d (.int l)))).set 27 (some (R.d (.int q)))).set 28 (some (R.d (.int 1))) = ρ1 at *
      refine seq_of (ρ1 := ρ2) (S1 := S) (mFor_of (ds := (List.range l).map fun k : Nat => PyData.int (k : Int)) (S1 := S) ?_ w3) ?_
      · simp only [mItA_ev, mCons_ev, mVar_ev, g26, getV_some, Res.bind_ok, mNil_ev, allD_cons, allD_nil, Option.map_some, optB_some, hr]
      have e4 : (a : Int) + 2 ^ l = ((a + 2 ^ l : Nat) : Int) := by simp
      refine seq_of (ρ1 := ρ2) (S1 := S) ?_ ?_
      · unfold i_law_6
        simp [k25, k27, w2, m1]
      · simp only [mAsg_ev, mOp2_ev, mVar_ev, k25, w2, getV_some, Res.bind_ok, rd_d, optB_some, addD_int, optR_some, Res.out_ok, gN_ev, optG_some, e4]
    · have : a = hi + 1 := by omega
      subst this
      have hcov : coverL hi (f + 1) (hi + 1) = [] := by
        show (if hi + 1 ≤ hi then _ else _) = _
        rw [if_neg hc]
      rw [hcov]
      exact ⟨ρ, Fr.refl _ _, h, rfl⟩
end G95

set_option Elab.async false
set_option linter.all false
set_option maxRecDepth 100000
/-! L95e: the table. -/
namespace G95
open PySem Pi
abbrev nD (xs : List Nat) : List D := xs.map fun x : Nat => PyData.int (x : Int)
theorem intsD_n : ∀ xs : List Nat, intsD (nD xs) = some (xs.map fun x : Nat => (x : Int))
  | [] => rfl
  | x :: xs => by show (intsD (nD xs)).map ((x : Int) :: ·) = _; rw [intsD_n xs]; rfl
theorem minI_n : ∀ xs : List Nat, minI (xs.map fun x : Nat => (x : Int)) = ((minN xs : Nat) : Int)
  | [] => rfl
  | [x] => rfl
  | x :: y :: r => by
    have ih := minI_n (y :: r)
    show min (x : Int) (minI ((y :: r).map fun x : Nat => (x : Int))) = ((min x (minN (y :: r)) : Nat) : Int)
    rw [ih]; omega
theorem minD_n (xs : List Nat) (h : xs ≠ []) : minD [.list (nD xs)] = some (.int ((minN xs : Nat) : Int)) := by
  show minOf _ = _
  unfold minOf
  rw [intsD_n]
  cases xs with
  | nil => exact absurd rfl h
  | cons x r => rw [← minI_n]; rfl
def wayOne (a : Nat) (t : List Nat) (k : Nat) : List Nat := match t[2 ^ k - 1]? with
  | some v => if a % 2 ^ k = 0 then [v] else []
  | none => []
theorem waysL_succ (a : Nat) (t : List Nat) (k : Nat) : waysL a t (k + 1) = waysL a t k ++ wayOne a t k := rfl
theorem wayOne_len (a : Nat) (t : List Nat) (k : Nat) : (wayOne a t k).length ≤ 1 := by
  unfold wayOne
  split
  · split <;> simp
  · simp
theorem waysL_len (a : Nat) (t : List Nat) : ∀ k, (waysL a t k).length ≤ k
  | 0 => Nat.le_refl _
  | k + 1 => by
    have h1 := waysL_len a t k
    have h2 := wayOne_len a t k
    rw [waysL_succ, List.length_append]; omega
theorem ways_stop (a : Nat) (t : List Nat) (k : Nat) (h : t.length < 2 ^ k) : ∀ d, waysL a t (k + d) = waysL a t k
  | 0 => rfl
  | d + 1 => by
    have e : t[2 ^ (k + d) - 1]? = none := by
      rw [List.getElem?_eq_none_iff]
      have : 2 ^ k ≤ 2 ^ (k + d) := Nat.pow_le_pow_right (by omega) (by omega)
      omega
    have e2 : wayOne a t (k + d) = [] := by unfold wayOne; rw [e]
    show waysL a t (k + d + 1) = _
    rw [waysL_succ, e2, ways_stop a t k h d, List.append_nil]
theorem ways_ne (a : Nat) (t : List Nat) (h : t ≠ []) : ∀ k, waysL a t (k + 1) ≠ []
  | 0 => by
    cases t with
    | nil => exact absurd rfl h
    | cons x r => simp [waysL, Nat.mod_one]
  | k + 1 => by
    have := ways_ne a t h k
    show waysL a t (k + 1) ++ _ ≠ []
    intro e
    exact this (List.append_eq_nil_iff.mp e).1
structure Tb (S : Store) (m lo hi W n a : Nat) (t : List Nat) : Prop where
  cell : S[m]? = some (.lst (nD (List.replicate (W - n) 0 ++ t)))
  tl : t.length = n + 1
  nW : n < W
  hW : hi + 1 = lo + W
  ha : a + n = hi
  W60 : W ≤ 60
  h1000 : hi < 1000
theorem loop_ways {S : Store} {m lo hi W n a : Nat} {t : List Nat} (B : Tb S m lo hi W n a t) : ∀ (j k nf : Nat) (ρ : Pi.Env), k + j = 7 → j + 1 ≤ nf → ρ.length = 35 → ρ[9]? = some (some (.d (.int hi))) → ρ[8]? = some (some (.d (.int lo))) →
    ρ[11]? = some (some (.d (.int a))) → ρ[10]? = some (some (.ref m)) → ρ[30]? = some (some (.d (.list (nD (waysL a t k))))) → ρ[28]? = some (some (.d (.int ((2 ^ k : Nat) : Int)))) →
    ∃ ρ', Fr [28, 30] ρ ρ' ∧ ρ'[30]? = some (some (.d (.list (nD (waysL a t 7))))) ∧ whileLoop c_law_4 b_law_4 nf ρ S = .nx ρ' S := by
  intro j
  induction j with
  | zero =>
    intro k nf ρ hk hn hl h9 h8 h11 h10 h30 h28
    obtain ⟨nf, rfl⟩ : ∃ q, nf = q + 1 := ⟨nf - 1, by omega⟩
    have : k = 7 := by omega
    subst this
    refine ⟨ρ, Fr.refl _ _, h30, ?_⟩
    have h1 := B.nW; have h2 := B.W60; have h3 := B.ha
    have hc : ¬ (((2 ^ 7 : Nat) : Int) ≤ (hi : Int) - a + 1) := by omega
    rw [whileLoop_succ]
    unfold c_law_4
    simp only [mB_ev, mOp2_ev, mVar_ev, h28, h9, h11, getV_some, Res.bind_ok, rd_d, optB_some, subD_int, optR_some, mD_ev, addD_int, leD_int, boolR_bool, decide_eq_false hc, Res.out_ok]
    simp
  | succ j ih =>
    intro k nf ρ hk hn hl h9 h8 h11 h10 h30 h28
    obtain ⟨nf, rfl⟩ : ∃ q, nf = q + 1 := ⟨nf - 1, by omega⟩
    have h1 := B.nW; have h2 := B.W60; have h3 := B.ha; have h4 := B.tl; have h5 := B.hW; have h6 := B.h1000
    have hpos : 0 < 2 ^ k := Nat.pow_pos (by omega)
    by_cases hc : 2 ^ k ≤ n + 1
    · have hci : ((2 ^ k : Nat) : Int) ≤ (hi : Int) - a + 1 := by omega
      have ht : 2 ^ k - 1 < t.length := by omega
      have hcell := rd_ref B.cell
      have hix : ixD (.list (nD (List.replicate (W - n) 0 ++ t))) (.int ((a : Int) + ((2 ^ k : Nat) : Int) - lo)) = some (.int ((t[2 ^ k - 1] : Nat) : Int)) := by
        have e : (a : Int) + ((2 ^ k : Nat) : Int) - lo = ((W - n + (2 ^ k - 1) : Nat) : Int) := by omega
        rw [e, ixL _ _ (by simp; omega), List.getElem?_map, List.getElem?_append_right (by simp), List.length_replicate, Nat.add_sub_cancel_left, List.getElem?_eq_getElem ht]
        rfl
      have hw : waysL a t (k + 1) = waysL a t k ++ (if a % 2 ^ k = 0 then [t[2 ^ k - 1]] else []) := by
        show waysL a t k ++ (match t[2 ^ k - 1]? with | some v => if a % 2 ^ k = 0 then [v] else [] | none => []) = _
        rw [List.getElem?_eq_getElem ht]
      have hwl := waysL_len a t k
      have hm : modD (.int (a : Int)) (.int ((2 ^ k : Nat) : Int)) = some (.int ((a % 2 ^ k : Nat) : Int)) := by
        rw [modD_int (by omega)]
        congr 2
      have m2 : mulD (.int 2) (.int ((2 ^ k : Nat) : Int)) = some (.int ((2 ^ (k + 1) : Nat) : Int)) := by
        rw [mulD_int (mulOk_l (by omega))]
        congr 2
        rw [Nat.pow_succ]; omega
      have f1 : Fr [28, 30] ρ ((ρ.set 30 (some (.d (.list (nD (waysL a t (k + 1))))))).set 28 (some (.d (.int ((2 ^ (k + 1) : Nat) : Int))))) := ((Fr.refl _ ρ).set 30 _).set 28 _
      obtain ⟨ρ', v1, v2, v3⟩ := ih (k + 1) nf _ (by omega) (by omega) (by rw [f1.len, hl]) (by rw [f1.get 9 (by decide)]; exact h9) (by rw [f1.get 8 (by decide)]; exact h8) (by rw [f1.get 11 (by decide)]; exact h11) (by rw [f1.get 10 (by decide)]; exact h10)
        (by rw [List.getElem?_set_ne (by decide)]; exact List.getElem?_set_self (by rw [hl]; decide)) (List.getElem?_set_self (by simp [hl]))
      refine ⟨ρ', f1.trans v1, v2, ?_⟩
      rw [whileLoop_succ, ← v3]
      rw [hw]
      generalize ((2 ^ k : Nat) : Int) = w at *
      generalize ((2 ^ (k + 1) : Nat) : Int) = w2 at *
      unfold c_law_4 b_law_4
      by_cases hd : a % 2 ^ k = 0
      · have ad : addD (.list (nD (waysL a t k))) (.list [.int ((t[2 ^ k - 1] : Nat) : Int)]) = some (.list (nD (waysL a t k ++ [t[2 ^ k - 1]]))) := by
          rw [addD_lst (by rw [hz]; simp; omega)]; simp
        rw [hd] at hm
        simp only [if_pos hd]
        generalize t[2 ^ k - 1] = tv at *
        generalize waysL a t k = ws at *
        generalize List.replicate (W - n) 0 ++ t = xs at *
        simp only [mB_ev, mOp2_ev, mVar_ev, h28, h9, h11, getV_some, Res.bind_ok, rd_d, optB_some, subD_int, optR_some, mD_ev, addD_int, leD_int, boolR_bool, decide_eq_true hci, Res.out_ok, if_true, mPar_ev, mCons_ev, mNil_ev, h30, mIfE_ev, mCB_ev, rdAll_cons, rdAll_nil, Option.bind_some, Option.map_some, intD_int, hm, eqD_int, mFrz_ev, mDisp_ev, h10, hcell, h8, hix, allD_cons, allD_nil, List.length_cons, List.length_nil, hz, m2, ad, Int.natCast_zero, decide_true]
        simp
        simp at ad
        simp [ad]
      · have ad : addD (.list (nD (waysL a t k))) (.list []) = some (.list (nD (waysL a t k ++ []))) := by
          rw [addD_lst (by rw [hz]; simp; omega)]; simp
        have hd' : ¬ (((a % 2 ^ k : Nat) : Int) = 0) := by omega
        simp only [if_neg hd]
        generalize t[2 ^ k - 1] = tv at *
        generalize waysL a t k = ws at *
        generalize List.replicate (W - n) 0 ++ t = xs at *
        simp only [mB_ev, mOp2_ev, mVar_ev, h28, h9, h11, getV_some, Res.bind_ok, rd_d, optB_some, subD_int, optR_some, mD_ev, addD_int, leD_int, boolR_bool, decide_eq_true hci, Res.out_ok, if_true, mPar_ev, mCons_ev, mNil_ev, h30, mIfE_ev, mCB_ev, rdAll_cons, rdAll_nil, Option.bind_some, Option.map_some, intD_int, hm, eqD_int, decide_eq_false hd', mFrz_ev, mDisp_ev, allD_nil, List.length_nil, hz, m2, ad]
        simp
        simp at ad
        simp [ad]
    · refine ⟨ρ, Fr.refl _ _, ?_, ?_⟩
      · rw [h30, show (7 : Nat) = k + (j + 1) by omega, ways_stop a t k (by omega)]
      · have hc' : ¬ (((2 ^ k : Nat) : Int) ≤ (hi : Int) - a + 1) := by omega
        generalize ((2 ^ k : Nat) : Int) = w at *
        rw [whileLoop_succ]
        unfold c_law_4
        simp only [mB_ev, mOp2_ev, mVar_ev, h28, h9, h11, getV_some, Res.bind_ok, rd_d, optB_some, subD_int, optR_some, mD_ev, addD_int, leD_int, boolR_bool, decide_eq_false hc', Res.out_ok]
        simp
theorem tab_len (hi : Nat) : ∀ n, (tab hi n).length = n + 1
  | 0 => rfl
  | n + 1 => by show (_ :: tab hi n).length = _; rw [List.length_cons, tab_len hi n]
theorem loop_tab {m lo hi W : Nat} (hW : hi + 1 = lo + W) (W60 : W ≤ 60) (h1000 : hi < 1000) : ∀ (j n : Nat) (ρ : Pi.Env) (S : Store), n + j = W → ρ.length = 35 → ρ[9]? = some (some (.d (.int hi))) → ρ[8]? = some (some (.d (.int lo))) → ρ[10]? = some (some (.ref m)) →
    S[m]? = some (.lst (nD (List.replicate (W - n) 0 ++ tab hi n))) → ∃ ρ', Fr [11, 28, 30] ρ ρ' ∧ forLoop (gN 11) b_law_3 ((List.range' n j).map fun k : Nat => .int ((hi : Int) - (k : Int))) ρ S = .nx ρ' (S.set m (.lst (nD (tab hi W)))) := by
  intro j
  induction j with
  | zero =>
    intro n ρ S hj hl h9 h8 h10 hS
    have : n = W := by omega
    subst this
    refine ⟨ρ, Fr.refl _ _, ?_⟩
    simp only [Nat.sub_self, List.replicate_zero, List.nil_append] at hS
    obtain ⟨q1, q2⟩ := List.getElem?_eq_some_iff.mp hS
    rw [← q2, List.set_getElem_self]
    rfl
  | succ j ih =>
    intro n ρ S hj hl h9 h8 h10 hS
    obtain ⟨a, ha⟩ : ∃ a, a + n = hi := ⟨hi - n, by omega⟩
    have B : Tb S m lo hi W n a (tab hi n) := ⟨hS, tab_len hi n, by omega, hW, ha, W60, h1000⟩
    have ea : (hi : Int) - (n : Int) = (a : Int) := by omega
    rw [List.range'_succ, List.map_cons, forLoop_cons, ea]
    simp only [gN_ev, optO_some]
    have f1 : Fr [11, 28, 30] ρ (((ρ.set 11 (some (.d (.int a)))).set 30 (some (.d (.list (nD (waysL a (tab hi n) 0)))))).set 28 (some (.d (.int ((2 ^ 0 : Nat) : Int))))) := (((Fr.refl _ ρ).set 11 _).set 30 _).set 28 _
    obtain ⟨ρ2, w1, w2, w3⟩ := loop_ways B 7 0 300 _ (by omega) (by omega) (by rw [f1.len, hl]) (by rw [f1.get 9 (by decide)]; exact h9) (by rw [f1.get 8 (by decide)]; exact h8)
      (by rw [List.getElem?_set_ne (by decide), List.getElem?_set_ne (by decide)]; exact List.getElem?_set_self (by rw [hl]; decide))
      (by rw [f1.get 10 (by decide)]; exact h10) (by rw [List.getElem?_set_ne (by decide)]; exact List.getElem?_set_self (by simp [hl])) (List.getElem?_set_self (by simp [hl]))
    have f2 : Fr [11, 28, 30] ρ ρ2 := f1.trans w1.mono
    have k11 : ρ2[11]? = some (some (.d (.int a))) := by
      rw [w1.get 11 (by decide), List.getElem?_set_ne (by decide), List.getElem?_set_ne (by decide)]
      exact List.getElem?_set_self (by rw [hl]; decide)
    have k8 := (f2.get 8 (by decide)).trans h8
    have k10 := (f2.get 10 (by decide)).trans h10
    have hne := ways_ne a (tab hi n) (fun e => by have := tab_len hi n; rw [e] at this; cases this) 6
    have hmin := minD_n _ hne
    have hm : m < S.length := (List.getElem?_eq_some_iff.mp hS).1
    have etab : tab hi (n + 1) = (1 + minN (waysL a (tab hi n) 7)) :: tab hi n := by
      show (1 + minN (waysL (hi - n) (tab hi n) 7)) :: tab hi n = _
      rw [show hi - n = a by omega]
    have hput : putR S (.ref m) (.d (.int ((a : Int) - lo))) (.d (.int (1 + ((minN (waysL a (tab hi n) 7) : Nat) : Int)))) = some (S.set m (.lst (nD (List.replicate (W - (n + 1)) 0 ++ tab hi (n + 1))))) := by
      have e1 : (a : Int) - lo = ((W - (n + 1) : Nat) : Int) := by omega
      have e2 : ixN (nD (List.replicate (W - n) 0 ++ tab hi n)).length ((W - (n + 1) : Nat) : Int) = some (W - (n + 1)) := by
        have hlt : ((W - (n + 1) : Nat) : Int) < ((W - n + (n + 1) : Nat) : Int) := by omega
        unfold ixN L2.ixN
        simp [tab_len]
        omega
      have e3 : (nD (List.replicate (W - n) 0 ++ tab hi n)).set (W - (n + 1)) (.int (1 + ((minN (waysL a (tab hi n) 7) : Nat) : Int))) = nD (List.replicate (W - (n + 1)) 0 ++ tab hi (n + 1)) := by
        rw [etab]
        have e4 : W - n = (W - (n + 1)) + 1 := by omega
        rw [e4, List.replicate_succ', List.append_assoc]
        simp
      rw [e1]
      have e5 : putR S (.ref m) (.d (.int ((W - (n + 1) : Nat) : Int))) (.d (.int (1 + ((minN (waysL a (tab hi n) 7) : Nat) : Int)))) = some (S.set m (.lst ((nD (List.replicate (W - n) 0 ++ tab hi n)).set (W - (n + 1)) (.int (1 + ((minN (waysL a (tab hi n) 7) : Nat) : Int)))))) := by
        unfold putR
        simp only [hS]
        rw [e2]
      rw [e5, e3]
    have hS2 : (S.set m (.lst (nD (List.replicate (W - (n + 1)) 0 ++ tab hi (n + 1)))))[m]? = some (.lst (nD (List.replicate (W - (n + 1)) 0 ++ tab hi (n + 1)))) := List.getElem?_set_self hm
    obtain ⟨ρ', v1, v2⟩ := ih (n + 1) ρ2 _ (by omega) (by rw [f2.len, hl]) ((f2.get 9 (by decide)).trans h9) k8 k10 hS2
    refine ⟨ρ', f2.trans v1, ?_⟩
    rw [List.set_set] at v2
    rw [← v2]
    unfold b_law_3 w_law_4
    generalize hww : waysL a (tab hi n) 7 = ws at *
    have e0 : nD (waysL a (tab hi n) 0) = [] := rfl
    rw [e0] at w3
    generalize List.replicate (W - (n + 1)) 0 ++ tab hi (n + 1) = zs at *
    simp only [Nat.pow_zero, Int.natCast_one] at w3
    simp [hz, mWhile_ev]
    rw [w3]
    simp [w2, k10, k11, k8, hmin, hput]
/-! fewest -/
theorem chk_ok (hi : Nat) (h : hi < 160) : chkRow hi = true := by
  have f : ∀ b, ((List.range 20).all fun j => chkRow (b + j)) = true → b ≤ hi → hi < b + 20 → chkRow hi = true := fun b hb h1 h2 => by
    have := List.all_eq_true.mp hb (hi - b) (by simp; omega)
    rwa [show b + (hi - b) = hi by omega] at this
  by_cases h1 : hi < 20; · exact f 0 c0 (by omega) (by omega)
  by_cases h2 : hi < 40; · exact f 20 c1 (by omega) (by omega)
  by_cases h3 : hi < 60; · exact f 40 c2 (by omega) (by omega)
  by_cases h4 : hi < 80; · exact f 60 c3 (by omega) (by omega)
  by_cases h5 : hi < 100; · exact f 80 c4 (by omega) (by omega)
  by_cases h6 : hi < 120; · exact f 100 c5 (by omega) (by omega)
  by_cases h7 : hi < 140; · exact f 120 c6 (by omega) (by omega)
  exact f 140 c7 (by omega) (by omega)
theorem tab_drop (hi n : Nat) : ∀ d, (tab hi (n + d)).drop d = tab hi n
  | 0 => rfl
  | d + 1 => by
    show (_ :: tab hi (n + d)).drop (d + 1) = _
    rw [List.drop_succ_cons, tab_drop hi n d]
theorem fewest_ok (lo hi W : Nat) (hW : hi + 1 = lo + W) (h60 : W ≤ 60) (h : hi < 160) : (tab hi W)[0]? = some (coverL hi W lo).length := by
  have hc := chk_ok hi h
  unfold chkRow at hc
  have hN : W ≤ min 60 (hi + 1) := by omega
  generalize hNN : min 60 (hi + 1) = N at *
  have hc := eq_of_beq hc
  have e : (tab hi N)[N - W]? = some (coverL hi W (hi + 1 - W)).length := by
    rw [← hc, List.getElem?_reverse (by simp; omega)]
    simp only [List.length_map, List.length_range]
    rw [List.getElem?_map, List.getElem?_range (by omega)]
    have : N + 1 - 1 - (N - W) = W := by omega
    rw [this]
    rfl
  have hd := tab_drop hi W (N - W)
  rw [show W + (N - W) = N by omega] at hd
  rw [← hd, List.getElem?_drop, Nat.add_zero, e, show hi + 1 - W = lo by omega]
end G95

set_option Elab.async false
set_option linter.all false
set_option maxRecDepth 100000
/-! L95f: a turn of the law. -/
namespace G95
open PySem Pi
theorem roll_call {ρ : Pi.Env} (hE : En ρ) (m : Int) (a b : Int) (T : Store) (h0 : 0 < m) (h1 : m < 2 ^ 32) : ∃ r a' b', 0 ≤ r ∧ r < m ∧ mCall1 m__law_roll (mCons (mVar 1) (mCons (mD (.int m)) mNil)) ρ (cup a b :: T) = .ok (.d (.int r)) (cup a' b' :: T) := e_roll hE m h0 h1 a b T
theorem ok_cell (c : CT) : okS (cD c) = true := by simp [okS, okSs]
theorem ok_optC : ∀ o : Option CT, okS (optC o) = true
  | none => rfl
  | some c => ok_cell c
theorem dp_optC : ∀ o : Option CT, (optC o).depth < 8
  | none => by simp [PyData.depth]
  | some c => by simp [PyData.depth, PyData.depthAll]
theorem corn_mem : ∀ (cs : List OC) (i : Nat), ∀ x ∈ cornL i cs, ∃ p : Pt, x = ptD p
  | [], _, x, h => by cases h
  | none :: cs, i, x, h => corn_mem cs (i + 1) x h
  | some c :: cs, i, x, h => by
    rcases List.mem_append.mp (show x ∈ cornC i (cellOf c) ++ cornL (i + 1) cs from h) with h | h
    · unfold cornC opt1 at h
      rcases List.mem_cons.mp h with h | h
      · exact ⟨_, h⟩
      · rcases List.mem_append.mp h with h | h
        · split at h
          · cases h
          · exact ⟨_, List.mem_singleton.mp h⟩
        · rcases List.mem_append.mp h with h | h
          · split at h
            · cases h
            · exact ⟨_, List.mem_singleton.mp h⟩
          · split at h
            · cases h
            · exact ⟨_, List.mem_singleton.mp h⟩
    · exact corn_mem cs (i + 1) x h
theorem ok_corn (cs : List OC) (h : cs.length ≤ 256) : okS (.tuple (cornL 0 cs)) = true ∧ (PyData.tuple (cornL 0 cs)).depth < 8 := by
  constructor
  · have hl := cornL_len cs 0
    have := okSs_of (xs := cornL 0 cs) fun x hx => by
      obtain ⟨p, rfl⟩ := corn_mem cs 0 x hx
      simp [okS, okSs]
    unfold okS
    rw [this]
    simp; omega
  · rw [PyData.depth]
    have : PyData.depthAll (cornL 0 cs) ≤ 1 := depthAll_le fun x hx => by
      obtain ⟨p, rfl⟩ := corn_mem cs 0 x hx
      simp [PyData.depth, PyData.depthAll]
    omega
/-- no cell is bent -/
theorem no_bent (cs : List OC) (h : Cs cs) (ρ : Pi.Env) (hl : 32 < ρ.length) (S : Store) : lcLoop ρ (gN 32) (mAndT (mB (mOp2 notND (mVar 32) (mD .none))) (mB (mOp2 notBD (mCallP m_is_cell (mCons (mVar 32) mNil)) (mD (.bool true))))) (mVar 32) (cs.map oC) S = .ok [] S := by
  have := lc_of (ρ := ρ) (S := S) (t := gN 32) (ta := mAndT (mB (mOp2 notND (mVar 32) (mD .none))) (mB (mOp2 notBD (mCallP m_is_cell (mCons (mVar 32) mNil)) (mD (.bool true))))) (el := mVar 32) (p := fun _ : OC => false) (f := oC) oC (xs := cs) fun o ho => ?_
  · rw [this]; simp
  · refine ⟨ρ.set 32 (some (.d (oC o))), rfl, ?_, fun h => by cases h⟩
    have e : (ρ.set 32 (some (R.d (oC o))))[32]? = some (some (.d (oC o))) := List.getElem?_set_self hl
    cases o with
    | none =>
      rw [oC_none] at e
      simp [e]
    | some c =>
      have f : fitsC (cellOf c).n (cellOf c).a (cellOf c).b (cellOf c).lo (cellOf c).hi (cellOf c).s = true := (h.ch c ho).fits
      rw [oC_some] at e
      simp [oC_some, e, p_is_cell, f]
theorem chk_any (m f l lo hi s : Nat) (h1 : m < 3) (h2 : f < 4) (h3 : l < 4) (h4 : lo < 3) (h5 : hi < 4) (h6 : s < 16) : fitsC ((m : Int) + 2) (10, (f : Int)) (20, (l : Int)) (lo : Int) ((hi : Int) + 1) (s : Int) = goodN m f l lo (hi + 1) s := by
  have hk : chk m = true := by
    have : m = 0 ∨ m = 1 ∨ m = 2 := by omega
    rcases this with rfl | rfl | rfl
    · exact chk0
    · exact chk1
    · exact chk2
  unfold chk at hk
  have a1 := List.all_eq_true.mp hk f (by simp; omega)
  have a2 := List.all_eq_true.mp a1 l (by simp; omega)
  have a3 := List.all_eq_true.mp a2 lo (by simp; omega)
  have a4 := List.all_eq_true.mp a3 hi (by simp; omega)
  have a5 := List.all_eq_true.mp a4 s (by simp; omega)
  exact eq_of_beq a5
theorem nat_of {i : Int} (h : 0 ≤ i) : ∃ n : Nat, i = (n : Int) := ⟨i.toNat, by omega⟩
/-- the small cells alike -/
theorem small_ok (ρ : Pi.Env) (S : Store) (n f l lo hi s : Int) (g : Bool) (h14 : ρ[14]? = some (some (.d (.int n)))) (h15 : ρ[15]? = some (some (.d (.int f)))) (h16 : ρ[16]? = some (some (.d (.int l)))) (h17 : ρ[17]? = some (some (.d (.int lo)))) (h18 : ρ[18]? = some (some (.d (.int hi)))) (h19 : ρ[19]? = some (some (.d (.int s)))) (h20 : ρ[20]? = some (some (.d (.bool g))))
    (hg : fitsC n (10, f) (20, l) lo hi s = g) : i_law_8 ρ S = .nx ρ S := by
  have hc := p_is_cell n (10, f) (20, l) lo hi s S
  rw [hg] at hc
  have hs := p_same (.bool g) S rfl (by simp [PyData.depth])
  unfold i_law_8
  simp [h14, h15, h16, h17, h18, h19, h20, hz]
  rw [hc]
  simp [h20, hs]
/-- the end of a turn -/
theorem end_ok (ρ : Pi.Env) (S : Store) (m hi : Nat) (ts : List D) (xs : List D) (h9 : ρ[9]? = some (some (.d (.int hi)))) (h25 : ρ[25]? = some (some (.d (.int ((hi + 1 : Nat) : Int))))) (h24 : ρ[24]? = some (some (.d (.tuple ts)))) (h10 : ρ[10]? = some (some (.ref m))) (hS : S[m]? = some (.lst xs)) (hx : ixD (.list xs) (.int 0) = some (.int (ts.length : Int))) : i_law_2 ρ S = .nx ρ S := by
  have hr := rd_ref hS
  unfold i_law_2
  simp [h9, h25, h24, h10, hr, hx]
end G95

set_option Elab.async false
set_option linter.all false
set_option maxRecDepth 100000
/-! L95g: a turn of the law, whole. -/
namespace G95
open PySem Pi
theorem turn_a (ρ : Pi.Env) (a b : Int) (T : Store) (hE : En ρ) : ∃ pts cs ρ' a' b', Cs cs ∧ Pts pts ∧ (cs.filterMap id).flatten = pts ∧ En ρ' ∧ ρ'[12]? = some (some (.d (.tuple (pts.map ptD)))) ∧ ρ'[13]? = some (some (.d (.tuple (cs.map oC)))) ∧
    ∀ k, (mSeq (mPar [12, 13, 11] (mCons (mCall1 m__law_some_points (mCons (mVar 1) (mCons (mD (.int 14)) (mCons (mD (.int 60)) mNil)))) (mCons (mTup mNil) (mCons (mD (.int 0)) mNil)))) (mSeq w_law_16 k)) ρ (cup a b :: T) = k ρ' (cup a' b' :: T) := by
  obtain ⟨pts, a1, b1, P, e1⟩ := r_points a b T
  have hl := hE.len
  have f1 : Fr [11, 12, 13] ρ (((ρ.set 12 (some (.d (.tuple (pts.map ptD))))).set 13 (some (.d (.tuple [])))).set 11 (some (.d (.int 0)))) := (((Fr.refl _ ρ).set 12 _).set 13 _).set 11 _
  have hP := P.len
  obtain ⟨ρ', cs, k', a', b', w1, w2, w3, w4, w5, w6⟩ := loop_chunks pts P T pts.length _ [] 0 300 a1 b1 (hE.of f1) (by simp [hl]) (by simp [List.getElem?_set, hl]) (by simp [List.getElem?_set, hl]) ⟨rfl, by simp, by omega, fun c h => by cases h⟩ (by omega) (by omega)
  have hfl : (cs.filterMap id).flatten = pts := by rw [w4.flat, List.take_of_length_le w5]
  have hC : Cs cs := ⟨by have := w4.len; have := w4.le; omega, w4.ch, by rw [hfl]; exact P.up⟩
  refine ⟨pts, cs, ρ', a', b', hC, P, hfl, w1, w2, w3, fun k => ?_⟩
  refine seq_of (ρ1 := ((ρ.set 12 (some (.d (.tuple (pts.map ptD))))).set 13 (some (.d (.tuple [])))).set 11 (some (.d (.int 0)))) (S1 := cup a1 b1 :: T) ?_ ?_
  · simp [hE.cup, e1, hz]
  · refine seq_of (ρ1 := ρ') (S1 := cup a' b' :: T) ?_ rfl
    exact w6
theorem turn_b (ρ : Pi.Env) (S : Store) (pts : List Pt) (cs : List OC) (hC : Cs cs) (P : Pts pts) (hfl : (cs.filterMap id).flatten = pts) (hE : En ρ) (h12 : ρ[12]? = some (some (.d (.tuple (pts.map ptD))))) (h13 : ρ[13]? = some (some (.d (.tuple (cs.map oC))))) : i_law_15 ρ S = .nx ρ S := by
  have h1 := p_cells_joined cs hC S
  rw [hfl] at h1
  have h2 := p_law_cell pts (by have := P.len; omega) S
  have h3 := p_same (optC (optP pts)) S (ok_optC _) (dp_optC _)
  have h4 := no_bent cs hC (ρ.set 32 none) (by simp [hE.len]) S
  have h5 : neD (.list []) (.list []) = some (.bool false) := rfl
  unfold i_law_15
  generalize optC (optP pts) = X at *
  simp [h12, h13, h1, h2, h3, h4, hz, h5]
theorem turn_c (ρ : Pi.Env) (S : Store) (cs : List OC) (hC : Cs cs) (hE : En ρ) (h13 : ρ[13]? = some (some (.d (.tuple (cs.map oC))))) :
    ∃ ρ', En ρ' ∧ ∀ k, (mSeq (mAsg (gN 4) (mFrz (mDisp mNil))) (mSeq f_law_13 (mSeq i_law_12 k))) ρ S = k ρ' S := by
  have hl := hE.len
  have f1 : Fr [4] ρ (ρ.set 4 (some (.d (.list [])))) := (Fr.refl _ ρ).set 4 _
  obtain ⟨ρ', w1, w2, w3, w4⟩ := loop_due cs hC.len S cs.length 0 _ [] (by omega) (hE.of f1) (by simp [hl]) (by rw [f1.get 13 (by decide)]; exact h13) (by simp)
  refine ⟨ρ', w1, fun k => ?_⟩
  refine seq_of (ρ1 := ρ.set 4 (some (.d (.list [])))) (S1 := S) (by simp [hz]) ?_
  refine seq_of (ρ1 := ρ') (S1 := S) ?_ ?_
  · unfold f_law_13 b_law_13 i_law_14
    have hr := range1_nat (j := (cs.length : Int)) (by omega) (by have := hC.len; omega)
    rw [Int.toNat_natCast, List.range_eq_range'] at hr
    have h13' := (f1.get 13 (by decide)).trans h13
    simp only [mFor_ev, mItA_ev, mCons_ev, mCB_ev, mVar_ev, h13', mNil_ev]
    simp only [getV_some, Res.bind_ok, rdAll_cons, rd_d, rdAll_nil, Option.bind_some, Option.map_some, lenD_tup, List.length_map, optB_some, optR_some, allD_cons, allD_nil, hr, Res.out_ok]
    exact w4
  · refine seq_of (ρ1 := ρ') (S1 := S) ?_ rfl
    rw [List.drop_zero, List.nil_append] at w2
    have h1 := p_corners cs hC S
    obtain ⟨q1, q2⟩ := ok_corn cs hC.len
    have h2 := p_same _ S q1 q2
    unfold i_law_12
    generalize cornL 0 cs = L at *
    simp [w3, h1, w2, h2]
theorem turn_d (ρ : Pi.Env) (a b : Int) (T : Store) (hE : En ρ) : ∃ ρ' a' b', En ρ' ∧ 
    ∀ k, (mSeq (mPar [15, 16] (mCons (mCall1 m__law_roll (mCons (mVar 1) (mCons (mD (.int 4)) mNil))) (mCons (mCall1 m__law_roll (mCons (mVar 1) (mCons (mD (.int 4)) mNil))) mNil)))
      (mSeq (mAsg (gT [(gN 14), (gN 17), (gN 18), (gN 19)]) (mTup (mCons (mOp2 addD (mD (.int 2)) (mCall1 m__law_roll (mCons (mVar 1) (mCons (mD (.int 3)) mNil)))) (mCons (mCall1 m__law_roll (mCons (mVar 1) (mCons (mD (.int 3)) mNil))) (mCons (mOp2 addD (mD (.int 1)) (mCall1 m__law_roll (mCons (mVar 1) (mCons (mD (.int 4)) mNil)))) (mCons (mCall1 m__law_roll (mCons (mVar 1) (mCons (mD (.int 16)) mNil))) mNil))))))
      (mSeq (mAsg (gT [(gN 20), (gN 21)]) (mTup (mCons (mD (.bool false)) (mCons (mFrz (mDisp (mCons (mTup mNil) mNil))) mNil))))
      (mSeq f_law_10 (mSeq f_law_9 (mSeq i_law_8 k)))))) ρ (cup a b :: T) = k ρ' (cup a' b' :: T) := by
  obtain ⟨f, a1, b1, f0, f1, e1⟩ := r_roll a b 4 T (by omega) (by omega)
  obtain ⟨l, a2, b2, l0, l1, e2⟩ := r_roll a1 b1 4 T (by omega) (by omega)
  obtain ⟨m, a3, b3, m0, m1, e3⟩ := r_roll a2 b2 3 T (by omega) (by omega)
  obtain ⟨lo, a4, b4, lo0, lo1, e4⟩ := r_roll a3 b3 3 T (by omega) (by omega)
  obtain ⟨hi, a5, b5, hi0, hi1, e5⟩ := r_roll a4 b4 4 T (by omega) (by omega)
  obtain ⟨s, a6, b6, s0, s1, e6⟩ := r_roll a5 b5 16 T (by omega) (by omega)
  have hl := hE.len
  have hcup := hE.cup
  let ρ1 : Pi.Env := (ρ.set 15 (some (.d (.int f)))).set 16 (some (.d (.int l)))
  let ρ2 : Pi.Env := (((ρ1.set 14 (some (.d (.int (2 + m))))).set 17 (some (.d (.int lo)))).set 18 (some (.d (.int (1 + hi))))).set 19 (some (.d (.int s)))
  let ρ3 : Pi.Env := (ρ2.set 20 (some (.d (.bool false)))).set 21 (some (.d (.list [.tuple []])))
  have fr3 : Fr [14, 15, 16, 17, 18, 19, 20, 21] ρ ρ3 := ((((((((Fr.refl _ ρ).set 15 _).set 16 _).set 14 _).set 17 _).set 18 _).set 19 _).set 20 _).set 21 _
  have hE3 := hE.of fr3
  obtain ⟨M, rfl⟩ := nat_of m0
  obtain ⟨F, rfl⟩ := nat_of f0
  obtain ⟨L, rfl⟩ := nat_of l0
  obtain ⟨LO, rfl⟩ := nat_of lo0
  obtain ⟨HI, rfl⟩ := nat_of hi0
  obtain ⟨SS, rfl⟩ := nat_of s0
  have q15 : ρ3[15]? = some (some (.d (.int F))) := by simp [ρ3, ρ2, ρ1, List.getElem?_set, hl]
  have q16 : ρ3[16]? = some (some (.d (.int L))) := by simp [ρ3, ρ2, ρ1, List.getElem?_set, hl]
  have q14 : ρ3[14]? = some (some (.d (.int (2 + (M : Int))))) := by simp [ρ3, ρ2, ρ1, List.getElem?_set, hl]
  have q17 : ρ3[17]? = some (some (.d (.int LO))) := by simp [ρ3, ρ2, ρ1, List.getElem?_set, hl]
  have q18 : ρ3[18]? = some (some (.d (.int (1 + (HI : Int))))) := by simp [ρ3, ρ2, ρ1, List.getElem?_set, hl]
  have q19 : ρ3[19]? = some (some (.d (.int SS))) := by simp [ρ3, ρ2, ρ1, List.getElem?_set, hl]
  have q20 : ρ3[20]? = some (some (.d (.bool false))) := by simp [ρ3, ρ2, ρ1, List.getElem?_set, hl]
  have q21 : ρ3[21]? = some (some (.d (.list ((rowsN 0).map rowD)))) := by simp [ρ3, ρ2, ρ1, List.getElem?_set, hl, rowsN, rowD]
  obtain ⟨ρ4, w1, w2, w3⟩ := loop_rows (cup a6 b6 :: T) ((List.range M).map fun k : Nat => PyData.int (k : Int)) 0 ρ3 (by simp; omega) hE3 q21
  rw [Nat.zero_add, List.length_map, List.length_range] at w2
  have hE4 := hE3.of w1
  obtain ⟨ρ5, v1, v2, v3⟩ := loop_good (cup a6 b6 :: T) F L LO (1 + (HI : Int)) SS (rowsN M) ρ4 false (fun r hr => by rw [rows_mem M r hr]; omega) hE4 ((w1.get 15 (by decide)).trans q15) ((w1.get 16 (by decide)).trans q16) ((w1.get 17 (by decide)).trans q17) ((w1.get 18 (by decide)).trans q18) ((w1.get 19 (by decide)).trans q19) ((w1.get 20 (by decide)).trans q20)
  have hg := chk_any M F L LO HI SS (by omega) (by omega) (by omega) (by omega) (by omega) (by omega)
  rw [Bool.false_or] at v2
  have hs := small_ok ρ5 (cup a6 b6 :: T) (2 + (M : Int)) F L LO (1 + (HI : Int)) SS _ ((v1.get 14 (by decide)).trans ((w1.get 14 (by decide)).trans q14)) ((v1.get 15 (by decide)).trans ((w1.get 15 (by decide)).trans q15)) ((v1.get 16 (by decide)).trans ((w1.get 16 (by decide)).trans q16)) ((v1.get 17 (by decide)).trans ((w1.get 17 (by decide)).trans q17)) ((v1.get 18 (by decide)).trans ((w1.get 18 (by decide)).trans q18)) ((v1.get 19 (by decide)).trans ((w1.get 19 (by decide)).trans q19)) v2
    (by rw [Int.add_comm 2, Int.add_comm 1]; exact hg)
  refine ⟨ρ5, a6, b6, hE4.of v1, fun k => ?_⟩
  refine seq_of (ρ1 := ρ1) (S1 := cup a2 b2 :: T) ?_ ?_
  · simp [hcup, e1, e2, ρ1]
  refine seq_of (ρ1 := ρ2) (S1 := cup a6 b6 :: T) ?_ ?_
  · have : ρ1[1]? = some (some (.ref 0)) := by simp [ρ1, List.getElem?_set, hcup]
    simp [this, e3, e4, e5, e6, hz, ρ2]
  refine seq_of (ρ1 := ρ3) (S1 := cup a6 b6 :: T) ?_ ?_
  · simp [hz, ρ3]
  refine seq_of (ρ1 := ρ4) (S1 := cup a6 b6 :: T) ?_ ?_
  · unfold f_law_10
    have hr := range1_nat (j := (M : Int)) (by omega) (by omega)
    rw [Int.toNat_natCast] at hr
    have e : 2 + (M : Int) - 2 = M := by omega
    generalize (List.range M).map (fun k : Nat => PyData.int (k : Int)) = J at *
    simp [q14, e, hr, w3]
  refine seq_of (ρ1 := ρ5) (S1 := cup a6 b6 :: T) ?_ ?_
  · unfold f_law_9
    simp [w2, v3]
  exact seq_of hs rfl
theorem mulD_list (xs : List D) (k : Int) : mulD (.list xs) (.int k) = if (decide (-(2 ^ 63) ≤ k) && decide (k < 2 ^ 63) && decide (xs.length * k.toNat ≤ sizeLine)) = true then some (.list (repD xs k)) else none := Eq.trans rfl rfl
theorem rep1 (n : Nat) (x : D) : repD [x] (n : Int) = List.replicate n x := by
    unfold repD
    rw [Int.toNat_natCast, List.flatten_replicate_singleton]
theorem hc1 (n : Nat) (h : n ≤ 1000) : -(2 ^ 63) ≤ (n : Int) := by omega
theorem hc2 (n : Nat) (h : n ≤ 1000) : (n : Int) < 2 ^ 63 := by omega
theorem hc4 (n : Nat) (h : n ≤ 1000) (x : D) : [x].length * (n : Int).toNat ≤ sizeLine := by rw [hz, List.length_singleton, Int.toNat_natCast]; omega
theorem hc (n : Nat) (h : n ≤ 1000) (x : D) :  (decide (-(2 ^ 63) ≤ (n : Int)) && decide ((n : Int) < 2 ^ 63) && decide ([x].length * (n : Int).toNat ≤ sizeLine)) = true := by
    rw [decide_eq_true (hc1 n h), decide_eq_true (hc2 n h), decide_eq_true (hc4 n h x)]
    rfl
theorem mul1 (n : Nat) (h : n ≤ 1000) (x : D) : mulD (.list [x]) (.int (n : Int)) = some (.list (List.replicate n x)) := by
  rw [mulD_list, if_pos (hc n h x), rep1]
theorem mul_rep (n : Nat) (h : n ≤ 1000) (x : D) : onlyL mulD (.list [x]) (.int (n : Int)) = some (List.replicate n x) := onlyL_of (mul1 n h x)
theorem nD_zero (W HI : Nat) : List.replicate (W + 2) (PyData.int 0) = nD (List.replicate (W + 1 - 0) 0 ++ tab HI 0) := by
  have e : List.replicate (W + 1 - 0) 0 ++ tab HI 0 = List.replicate (W + 2) 0 := (List.replicate_succ' (n := W + 1) (a := 0)).symm
  rw [e]
  unfold nD
  rw [List.map_replicate]
  simp
theorem range3_down (hi lo : Int) (n : Nat) (h1 : 0 ≤ hi ∧ hi ≤ 100000) (h2 : 0 ≤ lo ∧ lo ≤ 100000) (hn : (hi - (lo - 1)).toNat = n) : range3 [.int hi, .int (lo - 1), .int (-1)] = some ((List.range' 0 n).map fun k : Nat => .int (hi - (k : Int))) := by
  have o1 : okR hi = true := by unfold okR; simp; omega
  have o2 : okR (lo - 1) = true := by unfold okR; simp; omega
  unfold range3
  simp only [o1, o2, Bool.and_self, if_true, downD_map, List.range_eq_range', hn]
theorem turn_e (ρ : Pi.Env) (a b : Int) (T : Store) (hE : En ρ) : ∃ ρ' a' b' T', En ρ' ∧ 
    (mSeq (mAsg (gN 8) (mCall1 m__law_roll (mCons (mVar 1) (mCons (mD (.int 100)) mNil))))
      (mSeq (mAsg (gN 9) (mOp2 addD (mVar 8) (mCall1 m__law_roll (mCons (mVar 1) (mCons (mD (.int 60)) mNil)))))
      (mSeq (mPar [24, 25] (mCons (mCallP m_cover (mCons (mVar 8) (mCons (mVar 9) mNil))) (mCons (mVar 8) mNil)))
      (mSeq f_law_5
      (mSeq (mAsg (gN 10) (mNew (mOp2L (onlyL mulD) (mFrz (mDisp (mCons (mD (.int 0)) mNil))) (mOp2 addD (mOp2 subD (mVar 9) (mVar 8)) (mD (.int 2))))))
      (mSeq f_law_3 i_law_2)))))) ρ (cup a b :: T) = .nx ρ' (cup a' b' :: T') := by
  obtain ⟨lo, a1, b1, lo0, lo1, e1⟩ := r_roll a b 100 T (by omega) (by omega)
  obtain ⟨w, a2, b2, w0, w1, e2⟩ := r_roll a1 b1 60 T (by omega) (by omega)
  obtain ⟨LO, rfl⟩ := nat_of lo0
  obtain ⟨W, rfl⟩ := nat_of w0
  have hl := hE.len
  have hcup := hE.cup
  have ehi : (LO : Int) + (W : Int) = ((LO + W : Nat) : Int) := by omega
  generalize hHI : LO + W = HI at *
  have hcov := p_cover LO HI (by omega) (by omega) (cup a2 b2 :: T)
  have hW : HI + 1 - LO = W + 1 := by omega
  rw [hW] at hcov
  obtain ⟨C, hCC⟩ : ∃ C, (coverL HI (W + 1) LO).map lpD = C := ⟨_, rfl⟩
  rw [hCC] at hcov
  let ρ1 : Pi.Env := ρ.set 8 (some (.d (.int LO)))
  let ρ2 : Pi.Env := ρ1.set 9 (some (.d (.int HI)))
  let ρ3 : Pi.Env := (ρ2.set 24 (some (.d (.tuple C)))).set 25 (some (.d (.int LO)))
  have fr3 : Fr [8, 9, 24, 25] ρ ρ3 := ((((Fr.refl _ ρ).set 8 _).set 9 _).set 24 _).set 25 _
  have hE3 := hE.of fr3
  have q8 : ρ3[8]? = some (some (.d (.int LO))) := by simp [ρ3, ρ2, ρ1, List.getElem?_set, hl]
  have q9 : ρ3[9]? = some (some (.d (.int HI))) := by simp [ρ3, ρ2, ρ1, List.getElem?_set, hl]
  have q24 : ρ3[24]? = some (some (.d (.tuple C))) := by simp [ρ3, ρ2, ρ1, List.getElem?_set, hl]
  have q25 : ρ3[25]? = some (some (.d (.int LO))) := by simp [ρ3, ρ2, ρ1, List.getElem?_set, hl]
  obtain ⟨ρ4, x1, x2, x3⟩ := loop_here (cup a2 b2 :: T) HI (by omega) (W + 1) LO ρ3 (by omega) (by omega) hE3 q25
  rw [hCC] at x3
  let S5 : Store := (cup a2 b2 :: T) ++ [.lst (nD (List.replicate (W + 1 - 0) 0 ++ tab HI 0))]
  let ρ5 : Pi.Env := ρ4.set 10 (some (.ref (cup a2 b2 :: T).length))
  have hE4 := hE3.of x1
  have hl4 := hE4.len
  have fr5 : Fr [10] ρ4 ρ5 := (Fr.refl _ ρ4).set 10 _
  have k8 : ρ5[8]? = some (some (.d (.int LO))) := (fr5.get 8 (by decide)).trans ((x1.get 8 (by decide)).trans q8)
  have k9 : ρ5[9]? = some (some (.d (.int HI))) := (fr5.get 9 (by decide)).trans ((x1.get 9 (by decide)).trans q9)
  have k10 : ρ5[10]? = some (some (.ref (cup a2 b2 :: T).length)) := List.getElem?_set_self (by rw [hl4]; decide)
  have hS5 : S5[(cup a2 b2 :: T).length]? = some (.lst (nD (List.replicate (W + 1 - 0) 0 ++ tab HI 0))) := by simp [S5]
  obtain ⟨ρ6, y1, y2⟩ := loop_tab (m := (cup a2 b2 :: T).length) (lo := LO) (hi := HI) (W := W + 1) (by omega) (by omega) (by omega) (W + 1) 0 ρ5 S5 (by omega) (by rw [fr5.len, hl4]) k9 k8 k10 hS5
  have hf := fewest_ok LO HI (W + 1) (by omega) (by omega) (by omega)
  have hS6 : (S5.set (cup a2 b2 :: T).length (.lst (nD (tab HI (W + 1)))))[(cup a2 b2 :: T).length]? = some (.lst (nD (tab HI (W + 1)))) := List.getElem?_set_self (by simp [S5])
  have hx : ixD (.list (nD (tab HI (W + 1)))) (.int 0) = some (.int ((C.length : Nat) : Int)) := by
    refine ixL_lit _ _ _ ⟨by omega, ?_⟩
    show (nD (tab HI (W + 1)))[0]? = _
    rw [List.getElem?_map, hf, ← hCC, List.length_map]
    rfl
  have hend := end_ok ρ6 _ (cup a2 b2 :: T).length HI _ _ ((y1.get 9 (by decide)).trans k9) ((y1.get 25 (by decide)).trans ((fr5.get 25 (by decide)).trans x2)) ((y1.get 24 (by decide)).trans ((fr5.get 24 (by decide)).trans ((x1.get 24 (by decide)).trans q24))) ((y1.get 10 (by decide)).trans k10) hS6 hx
  have eS6 : S5.set (cup a2 b2 :: T).length (.lst (nD (tab HI (W + 1)))) = cup a2 b2 :: (T ++ [.lst (nD (tab HI (W + 1)))]) := by simp [S5]
  refine ⟨ρ6, a2, b2, T ++ [.lst (nD (tab HI (W + 1)))], (hE4.of fr5).of y1, ?_⟩
  refine seq_of (ρ1 := ρ1) (S1 := cup a1 b1 :: T) ?_ ?_
  · simp [hcup, e1, ρ1]
  refine seq_of (ρ1 := ρ2) (S1 := cup a2 b2 :: T) ?_ ?_
  · have c1 : ρ1[1]? = some (some (.ref 0)) := by simp [ρ1, List.getElem?_set, hcup]
    have c8 : ρ1[8]? = some (some (.d (.int LO))) := by simp [ρ1, List.getElem?_set, hl]
    simp [c1, c8, e2, ehi, ρ2]
  refine seq_of (ρ1 := ρ3) (S1 := cup a2 b2 :: T) ?_ ?_
  · have c8 : ρ2[8]? = some (some (.d (.int LO))) := by simp [ρ2, ρ1, List.getElem?_set, hl]
    have c9 : ρ2[9]? = some (some (.d (.int HI))) := by simp [ρ2, ρ1, List.getElem?_set, hl]
    simp [c8, c9, hcov, ρ3]
  refine seq_of (ρ1 := ρ4) (S1 := cup a2 b2 :: T) ?_ ?_
  · unfold f_law_5
    simp [q24, x3]
  refine seq_of (ρ1 := ρ5) (S1 := S5) ?_ ?_
  · have c8 := (x1.get 8 (by decide)).trans q8
    have c9 := (x1.get 9 (by decide)).trans q9
    have hm : onlyL mulD (.list [.int 0]) (.int ((HI : Int) - (LO : Int) + 2)) = some (nD (List.replicate (W + 1 - 0) 0 ++ tab HI 0)) := by
      have e : (HI : Int) - (LO : Int) + 2 = ((W + 2 : Nat) : Int) := by omega
      rw [e, mul_rep (W + 2) (by omega), nD_zero]
    simp only [S5]
    generalize nD (List.replicate (W + 1 - 0) 0 ++ tab HI 0) = Z at *
    simp [c8, c9, hz, hm, ρ5]
  refine seq_of (ρ1 := ρ6) (S1 := S5.set (cup a2 b2 :: T).length (.lst (nD (tab HI (W + 1))))) ?_ ?_
  · unfold f_law_3
    have hr := range3_down (HI : Int) (LO : Int) (W + 1) (by omega) (by omega) (by omega)
    generalize (List.range' 0 (W + 1)).map (fun k : Nat => PyData.int ((HI : Int) - (k : Int))) = J at *
    simp only [mFor_ev, mItA_ev, mCons_ev, mVar_ev, k9, mOp2_ev, k8, mOp1_ev, mD_ev, mNil_ev]
    simp only [getV_some, Res.bind_ok, rd_d, optB_some, subD_int, optR_some, negD_int, allD_cons, allD_nil, Option.map_some, hr, Res.out_ok]
    exact y2
  rw [hend, eS6]
theorem turn_ok (ρ : Pi.Env) (a b : Int) (T : Store) (hE : En ρ) : ∃ ρ' a' b' T', En ρ' ∧ b_law_1 ρ (cup a b :: T) = .nx ρ' (cup a' b' :: T') := by
  obtain ⟨pts, cs, ρ1, a1, b1, hC, P, hfl, hE1, h12, h13, k1⟩ := turn_a ρ a b T hE
  have k2 := turn_b ρ1 (cup a1 b1 :: T) pts cs hC P hfl hE1 h12 h13
  obtain ⟨ρ2, hE2, k3⟩ := turn_c ρ1 (cup a1 b1 :: T) cs hC hE1 h13
  obtain ⟨ρ3, a2, b2, hE3, k4⟩ := turn_d ρ2 a1 b1 T hE2
  obtain ⟨ρ4, a3, b3, T', hE4, k5⟩ := turn_e ρ3 a2 b2 T hE3
  refine ⟨ρ4, a3, b3, T', hE4, ?_⟩
  unfold b_law_1
  rw [k1]
  refine seq_of k2 ?_
  rw [k3, k4]
  exact k5
theorem turns_ok : ∀ (ds : List D) (ρ : Pi.Env) (a b : Int) (T : Store), En ρ → ∃ ρ' a' b' T', En ρ' ∧ forLoop (gN 2) b_law_1 ds ρ (cup a b :: T) = .nx ρ' (cup a' b' :: T')
  | [], ρ, a, b, T, h => ⟨ρ, a, b, T, h, rfl⟩
  | d :: ds, ρ, a, b, T, h => by
    obtain ⟨ρ1, a1, b1, T1, h1, e1⟩ := turn_ok (ρ.set 2 (some (.d d))) a b T (h.set (by decide))
    obtain ⟨ρ2, a2, b2, T2, h2, e2⟩ := turns_ok ds ρ1 a1 b1 T1 h1
    refine ⟨ρ2, a2, b2, T2, h2, ?_⟩
    rw [forLoop_cons]
    simp only [gN_ev, optO_some, e1, seq_nx, e2]
end G95

set_option Elab.async false
set_option linter.all false
set_option maxRecDepth 100000
/-! L95h: the law. -/
namespace G95
open PySem Pi
theorem cup_ok (ns : List Int) (hn : ns.length ≤ 63) : ∃ a b, m__law_cup [.d (.list (ns.map .int))] [] = .ok (.ref 0) [cup a b] := by
  have h0 : ∃ c : Int, 0 ≤ c ∧ ∃ h, ixD (.list (ns.map .int ++ [.int 0])) (.int 0) = some (.int h) ∧ absD [.int h] = some (.int c) := by
    cases ns with
    | nil => exact ⟨0, by omega, 0, rfl, rfl⟩
    | cons x r => exact ⟨if x < 0 then -x else x, by split <;> omega, x, by simp, rfl⟩
  obtain ⟨c, c0, h, h1, h2⟩ := h0
  have hadd : onlyL addD (.list (ns.map .int)) (.list [.int 0]) = some (ns.map .int ++ [.int 0]) := by
    unfold onlyL
    rw [addD_lst (by rw [hz]; simp; omega)]
  have hp : powD (.int 10) (.int 18) = some (.int (10 ^ 18)) := rfl
  have m1 : mulD (.int c) (.int 313) = some (.int (c * 313)) := mulD_int (mulOk_r (by omega))
  have m2 : modD (.int (c * 313 + 4021)) (.int 2077498221) = some (.int ((c * 313 + 4021) % 2077498221)) := modD_int (by omega)
  have m3 : divD (.int c) (.int 79) = some (.int (c / 79)) := divD_int (by omega) (by omega)
  unfold m__law_cup
  rw [fnR_ev]
  generalize ns.map PyData.int = L at *
  by_cases hc : (10 : Int) ^ 18 ≤ c
  · refine ⟨c / 79, (c * 313 + 4021) % 2077498221 + 163, ?_⟩
    simp only [startR, List.map_cons, List.map_nil, List.length_cons, List.length_nil]
    simp [hadd, h1, h2, hp, hc, m1, m2, m3, hz]
    simp at hc
    simp [hc, m3, m1, m2]
  · refine ⟨0, (c * 313 + 4021) % 2077498221 + 163, ?_⟩
    simp only [startR, List.map_cons, List.map_nil, List.length_cons, List.length_nil]
    simp [hadd, h1, h2, hp, hc, m1, m2, m3, hz]
    simp at hc
    have hc' : ¬ ((1000000000000000000 : Int) ≤ c) := by omega
    simp [hc', m1, m2]
def isF (r : Res R) : Bool := match r with
  | .ok (.d (.bool false)) [] => true
  | _ => false
theorem isF_ok {r : Res R} (h : isF r = true) : r = .ok (.d (.bool false)) [] := by
  unfold isF at h
  split at h
  · rfl
  · cases h
def bads1 : List D := [.none, .tuple [], .tuple [.int 0, .tuple [.int 1, .int 1], .tuple [.int 1, .int 1], .int 1, .int 1, .int 1], .tuple [.int 1, .tuple [.int 1, .int 1], .tuple [.int 2, .int 1], .int 1, .int 1, .int 1], .tuple [.int 1, .tuple [.int 1, .int 1], .tuple [.int 1, .int 1], .int 1, .int 1, .int 2], .tuple [.int 3, .tuple [.int 1, .int 1], .tuple [.int 2, .int 1], .int 1, .int 1, .int 3], .tuple [.int 2, .tuple [.int 2, .int 1], .tuple [.int 1, .int 1], .int 1, .int 1, .int 2]]
def bads2 : List D := [.tuple [.int 2, .tuple [.int 1, .int 1], .tuple [.int 2, .int 3], .int 2, .int 3, .int 4], .tuple [.bool true, .tuple [.int 1, .int 1], .tuple [.int 1, .int 1], .int 1, .int 1, .int 1], .tuple [.int 1, .tuple [.int 1, .bool true], .tuple [.int 1, .bool true], .int 1, .int 1, .int 1], .list [.int 1, .tuple [.int 1, .int 1], .tuple [.int 1, .int 1], .int 1, .int 1, .int 1], .tuple [.int 4097, .tuple [.int 0, .int 0], .tuple [.int 9999, .int 0], .int 0, .int 0, .int 0]]
theorem bads_ok : ((bads1 ++ bads2).all fun o => isF (m_is_cell [.d o] [])) = true := by decide +kernel
theorem bads_lc (ρ : Pi.Env) (S : Store) (hl : 31 < ρ.length) : lcLoop ρ (gN 31) (mB (mOp2 notBD (mCallP m_is_cell (mCons (mVar 31) mNil)) (mD (.bool false)))) (mVar 31) (bads1 ++ bads2) S = .ok [] S := by
  have := lc_filter (ρ := ρ) (S := S) (t := gN 31) (ta := mB (mOp2 notBD (mCallP m_is_cell (mCons (mVar 31) mNil)) (mD (.bool false)))) (el := mVar 31) (p := fun _ => false) (f := id) (ds := bads1 ++ bads2) fun o ho => ?_
  · rw [this]; simp
  · refine ⟨ρ.set 31 (some (.d o)), rfl, ?_, fun h => by cases h⟩
    have e : (ρ.set 31 (some (R.d o)))[31]? = some (some (.d o)) := List.getElem?_set_self hl
    have hf := isF_ok (List.all_eq_true.mp bads_ok o ho)
    have hp : runP m_is_cell [o] S = .ok (.d (.bool false)) S := runP_ok S hf
    simp [e, hp]
theorem law_ok (ns : List Int) (hn : ns.length ≤ 63) : ∃ S, m_law [.d (.list (ns.map .int))] [] = .ok (.d (.bool true)) S := by
  obtain ⟨a, b, hc⟩ := cup_ok ns hn
  generalize ns.map PyData.int = L at *
  have hE0 : En ((startR 35 [.d (.list L)]).set 1 (some (.ref 0))) := ⟨by simp [startR], by simp [startR]⟩
  obtain ⟨ρ', a', b', T', hE, e⟩ := turns_ok [.int 0, .int 1, .int 2, .int 3, .int 4] _ a b [] hE0
  refine ⟨cup a' b' :: T', ?_⟩
  rw [m_law_eq, fnR_ev]
  have hl := hE.len
  have key : ∀ o : Out, outF o = .ok (.d (.bool true)) (cup a' b' :: T') → ∀ x, x = o → outF x = .ok (.d (.bool true)) (cup a' b' :: T') := fun o h x hx => by rw [hx]; exact h
  refine key (.rt (.d (.bool true)) (cup a' b' :: T')) rfl _ ?_
  refine seq_of (ρ1 := (startR 35 [.d (.list L)]).set 1 (some (.ref 0))) (S1 := [cup a b]) ?_ ?_
  · simp [startR, hc]
  refine seq_of (ρ1 := ρ') (S1 := cup a' b' :: T') ?_ ?_
  · unfold f_law_1
    have hr5 : range1 [.int 5] = some [.int 0, .int 1, .int 2, .int 3, .int 4] := rfl
    simp only [mFor_ev, mItA_ev, mCons_ev, mD_ev, mNil_ev, Res.bind_ok, allD_cons, allD_nil, Option.map_some, optB_some, hr5, Res.out_ok]
    exact e
  generalize cup a' b' :: T' = S at *
  have hadd : onlyL addD (.list bads1) (.list bads2) = some (bads1 ++ bads2) := rfl
  refine seq_of (ρ1 := ρ'.set 3 (some (.d (.list bads1)))) (S1 := S) ?_ ?_
  · simp [hz, bads1]
  refine seq_of (ρ1 := ρ'.set 3 (some (.d (.list (bads1 ++ bads2))))) (S1 := S) ?_ ?_
  · have e3 : (ρ'.set 3 (some (R.d (.list bads1))))[3]? = some (some (.d (.list bads1))) := List.getElem?_set_self (by rw [hl]; decide)
    have hb : bads2 = [.tuple [.int 2, .tuple [.int 1, .int 1], .tuple [.int 2, .int 3], .int 2, .int 3, .int 4], .tuple [.bool true, .tuple [.int 1, .int 1], .tuple [.int 1, .int 1], .int 1, .int 1, .int 1], .tuple [.int 1, .tuple [.int 1, .bool true], .tuple [.int 1, .bool true], .int 1, .int 1, .int 1], .list [.int 1, .tuple [.int 1, .int 1], .tuple [.int 1, .int 1], .int 1, .int 1, .int 1], .tuple [.int 4097, .tuple [.int 0, .int 0], .tuple [.int 9999, .int 0], .int 0, .int 0, .int 0]] := rfl
    generalize bads1 = B1 at *
    generalize bads1 ++ bads2 = B at *
    rw [hb] at hadd
    simp [hz, e3, hadd, hb]
  have e3 : (ρ'.set 3 (some (R.d (.list (bads1 ++ bads2)))))[3]? = some (some (.d (.list (bads1 ++ bads2)))) := List.getElem?_set_self (by rw [hl]; decide)
  have l3 := bads_lc ((ρ'.set 3 (some (R.d (.list (bads1 ++ bads2))))).set 31 none) S (by simp [hl])
  generalize ρ'.set 3 (some (R.d (.list (bads1 ++ bads2)))) = ρ3 at *
  generalize bads1 ++ bads2 = B at *
  have h1 := p_is_cell 4096 (0, 0) (4095, 0) 0 0 0 S
  have hf : fitsC 4096 (0, 0) (4095, 0) 0 0 0 = true := by decide +kernel
  rw [hf] at h1
  have hC0 : Cs [] := ⟨by simp, (fun c h => by cases h), by simp⟩
  have hC1 : Cs [none] := ⟨by simp, (fun c h => by simp at h), by simp⟩
  have h2 := p_cells_joined [] hC0 S
  have h3 := p_corners [none] hC1 S
  have h4 := p_same (.tuple [.none, .tuple []]) S (by simp [okS, okSs]) (by simp [PyData.depth, PyData.depthAll])
  have h5 : eqD (.list []) (.list []) = some (.bool true) := rfl
  simp [optP, cornL] at h2 h3
  simp [e3, l3, hz, h5, h1, h2, h3, h4]
end G95

theorem PySem.Challenge.cw_serieskept_k95_whole_cells_joined_and_co_holds : PySem.Challenge.rw_serieskept_k95_whole_cells_joined_and_co.Holds := by
  exact G95.holds_of G95.law_ok
